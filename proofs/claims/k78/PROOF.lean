import PyProof.Rows.All
import Wide.All
import OpenK.AllK
import Wide.FinOn
import HandS.ForMost
import HandS.EndBits
import HandS.Style
import HandS.IsInst
import HandS.Wide
import HandS.SortInts
import HandS.SetFor
import HandS.Deep
import HandS.Zip
import HandS.TryOnly
import HandS.Conv
import PyProof.LongRange
import HandS.Text
import PyProof.StrOps2
import HandS.Set
import HandS.Strs
import PyProof.Rows.SetFrom
import HandS.DictComp
import PyProof.Draws
import PyProof.EnumMake
import PyProof.StrLawsRepr
import HandS.TupMul
import KE.KDictPairs
import HandS.Dict
import KE.KBits
import HandS.WideMore
import KE.SortData
import KE.KDictList
import KE.KDictCopyH
import PyProof.SumWalkG
import PyProof.P3In
import HandS.ExcCtx
import HandS.HotCalls
import HandS.ExcIs
import KE.DataFind
import HandS.TupAny
import HandS.ExcInit
import HandS.ExcField
import KE.KExcIs
import HandS.RaiseMore
import KE.KeyNested
import KE.KDictKeyed
import PyProof.ReprReads
import PyProof.Rows.RegStrFacts
import PySem.Challenge.RW_rangeclicks_k78_fewest_clicks_to_meet_by
set_option Elab.async false
set_option linter.all false
set_option maxRecDepth 100000
set_option autoImplicit false
/-! Dx, part A: data with Lean types over the abstract heap; the contexts; what an expression is worth. -/
namespace Dx
open PySem PySem.Spec PyProof.Rows L2

/-! ### types of data -/
structure Ty (K : PySem.W.Frag) where
  α : Type
  rep : Hp → V → α → Prop
  mono : ∀ {F F' : Hp} {v : V} {x : α}, Same F F' → rep F v x → rep F' v x
/-- what stands for the same tuples stands for the same data: no list is read -/
def LF {K : PySem.W.Frag} (τ : Ty K) : Prop := ∀ F F' v x, (∀ a xs, F a = some (.tup xs) → F' a = some (.tup xs)) → τ.rep F v x → τ.rep F' v x
/-- an object that is owned: told by its content -/
structure OTy (K : PySem.W.Frag) where
  τ : Ty K
  own : Hp → HO → τ.α → Prop
  mono : ∀ {F F' : Hp} {u : HO} {x : τ.α}, Same F F' → own F u x → own F' u x
  frz : ∀ {F : Hp} {a : Addr} {u : HO} {x : τ.α}, own F u x → F a = some u → τ.rep F (.ref a) x
  obj : ∀ {F : Hp} {u : HO} {x : τ.α}, own F u x → ∀ xs, u ≠ .tup xs
def LFo {K : PySem.W.Frag} (ω : OTy K) : Prop := ∀ F F' u x, (∀ a xs, F a = some (.tup xs) → F' a = some (.tup xs)) → ω.own F u x → ω.own F' u x

section
variable {K : PySem.W.Frag}
abbrev tInt (K : PySem.W.Frag) : Ty K := ⟨Int, fun _ v x => v = .int x, fun _ h => h⟩
abbrev tBool (K : PySem.W.Frag) : Ty K := ⟨Bool, fun _ v x => v = .bl x, fun _ h => h⟩
abbrev tStr (K : PySem.W.Frag) : Ty K := ⟨Str, fun _ v x => v = .str x ∧ PyData.strOk x = true, fun _ h => h⟩
/-- a text of which nothing more is known (a repr) -/
abbrev tTxt (K : PySem.W.Frag) : Ty K := ⟨Str, fun _ v x => v = .str x, fun _ h => h⟩
abbrev tNone (K : PySem.W.Frag) : Ty K := ⟨Unit, fun _ v _ => v = .non, fun _ h => h⟩
/-- data or None -/
abbrev tOpt (τ : Ty K) : Ty K := ⟨Option τ.α, fun F v x => match x with
  | none => v = .non
  | some y => v ≠ .non ∧ τ.rep F v y, fun {_ _ _ x} h r => match x, r with
  | none, r => r
  | some _, r => ⟨r.1, τ.mono h r.2⟩⟩
theorem paired_mono {α β : Type} {R R' : α → β → Prop} (h : ∀ a b, R a b → R' a b) : ∀ {xs : List α} {ys : List β}, Paired R xs ys → Paired R' xs ys
  | _, _, .nil => .nil
  | _, _, .cons r t => .cons (h _ _ r) (paired_mono h t)
theorem sq_mono {F F' : Hp} {a : Addr} {vs : List V} (h : Same F F') (r : SqL K F a vs) : SqL K F' a vs := h.seq r
abbrev tList (τ : Ty K) : Ty K := ⟨List τ.α, fun F v xs => ∃ a vs, v = .ref a ∧ F a = some (.lst vs) ∧ Paired (τ.rep F) vs xs ∧ xs.length ≤ sizeLine,
  fun h ⟨a, vs, e, q, p, z⟩ => ⟨a, vs, e, h _ _ q, paired_mono (fun _ _ r => τ.mono h r) p, z⟩⟩
/-- the script: a list of ints that may be known to the object or to the module -/
abbrev tScr (K : PySem.W.Frag) : Ty K := ⟨List Int, fun F v xs => ∃ a, v = .ref a ∧ SqL K F a (xs.map V.int) ∧ xs.length ≤ sizeLine, fun h ⟨a, e, q, z⟩ => ⟨a, e, sq_mono h q, z⟩⟩
/-- what is read as a list -/
def LL (L τ : Ty K) (to : L.α → List τ.α) : Prop := ∀ {F : Hp} {v : V} {x : L.α}, L.rep F v x → ∃ a vs, v = .ref a ∧ SqL K F a vs ∧ Paired (τ.rep F) vs (to x) ∧ (to x).length ≤ sizeLine
theorem paired_map {α β γ : Type} {R : α → γ → Prop} {f : β → α} {g : β → γ} (h : ∀ b, R (f b) (g b)) : ∀ xs : List β, Paired R (xs.map f) (xs.map g)
  | [] => .nil
  | x :: xs => .cons (h x) (paired_map h xs)
theorem ll_list {τ : Ty K} : LL (tList τ) τ (fun x => x) := fun ⟨a, vs, e, q, p, z⟩ => ⟨a, vs, e, .inl (.inl q), p, z⟩
theorem ll_scr : LL (tScr K) (tInt K) (fun x => x) := fun {F v x} ⟨a, e, q, z⟩ => ⟨a, _, e, q, by
  have := paired_map (R := (tInt K).rep F) (f := V.int) (g := fun (i : Int) => i) (fun _ => rfl) x
  rwa [List.map_id'] at this, z⟩
/-- the product of carriers: of arguments, of a tuple's items -/
def HL : List (Ty K) → Type
  | [] => Unit
  | [τ] => τ.α
  | τ :: σ :: ts => τ.α × HL (σ :: ts)
def RepAll (F : Hp) : (ts : List (Ty K)) → List V → HL ts → Prop
  | [], vs, _ => vs = []
  | [τ], vs, x => ∃ v, vs = [v] ∧ τ.rep F v x
  | τ :: σ :: ts, vs, x => ∃ v r, vs = v :: r ∧ τ.rep F v x.1 ∧ RepAll F (σ :: ts) r x.2
theorem RepAll.mono {F F' : Hp} (h : Same F F') : ∀ {ts : List (Ty K)} {vs : List V} {x : HL ts}, RepAll F ts vs x → RepAll F' ts vs x
  | [], _, _, r => r
  | [τ], _, _, ⟨v, e, r⟩ => ⟨v, e, τ.mono h r⟩
  | τ :: σ :: ts, _, _, ⟨v, r, e, r1, r2⟩ => ⟨v, r, e, τ.mono h r1, RepAll.mono h r2⟩
theorem RepAll.length {F : Hp} : ∀ {ts : List (Ty K)} {vs : List V} {x : HL ts}, RepAll F ts vs x → vs.length = ts.length
  | [], _, _, r => by rw [show _ = [] from r]; rfl
  | [τ], _, _, ⟨v, e, r⟩ => by rw [e]; rfl
  | τ :: σ :: ts, _, _, ⟨v, r, e, r1, r2⟩ => by rw [e, List.length_cons, RepAll.length r2]; rfl
/-- a tuple of known length -/
abbrev tTp (ts : List (Ty K)) : Ty K := ⟨HL ts, fun F v x => ∃ a vs, v = .ref a ∧ F a = some (.tup vs) ∧ RepAll F ts vs x,
  fun h ⟨a, vs, e, q, r⟩ => ⟨a, vs, e, h _ _ q, r.mono h⟩⟩
/-- a list that is owned -/
abbrev oList (τ : Ty K) : OTy K where
  τ := tList τ
  own := fun F u xs => ∃ vs, u = .lst vs ∧ Paired (τ.rep F) vs xs ∧ xs.length ≤ sizeLine
  mono := fun h ⟨vs, e, p, z⟩ => ⟨vs, e, paired_mono (fun _ _ r => τ.mono h r) p, z⟩
  frz := fun {F a u x} ⟨vs, e, p, z⟩ q => ⟨a, vs, rfl, e ▸ q, p, z⟩
  obj := fun ⟨vs, e, _⟩ xs z => by rw [e] at z; cases z

theorem lf_int : LF (tInt K) := fun _ _ _ _ _ r => r
theorem lf_bool : LF (tBool K) := fun _ _ _ _ _ r => r
theorem lf_opt {τ : Ty K} (h : LF τ) : LF (tOpt τ) := fun F F' v x k r => by
  cases x with
  | none => exact r
  | some y => exact ⟨r.1, h F F' v y k r.2⟩
theorem lf_all : ∀ {ts : List (Ty K)}, (∀ τ ∈ ts, LF τ) → ∀ (F F' : Hp) (vs : List V) (x : HL ts), (∀ a xs, F a = some (.tup xs) → F' a = some (.tup xs)) → RepAll F ts vs x → RepAll F' ts vs x
  | [], _, _, _, _, _, _, r => r
  | [τ], h, F, F', _, _, k, ⟨v, e, r⟩ => ⟨v, e, h τ (by simp) F F' _ _ k r⟩
  | τ :: σ :: ts, h, F, F', _, _, k, ⟨v, r, e, r1, r2⟩ => ⟨v, r, e, h τ (by simp) F F' _ _ k r1, lf_all (fun t m => h t (List.mem_cons_of_mem _ m)) F F' _ _ k r2⟩
theorem lf_tup {ts : List (Ty K)} (h : ∀ τ ∈ ts, LF τ) : LF (tTp ts) := fun F F' v x k ⟨a, vs, e, q, r⟩ => ⟨a, vs, e, k a vs q, lf_all h F F' vs x k r⟩
theorem lf_nil : ∀ τ ∈ ([] : List (Ty K)), LF τ := fun _ h => nomatch h
theorem lf_cons {τ : Ty K} {ts : List (Ty K)} (h : LF τ) (t : ∀ σ ∈ ts, LF σ) : ∀ σ ∈ τ :: ts, LF σ := fun σ m => (List.mem_cons.mp m).elim (fun e => e ▸ h) (t σ)
theorem lfo_list {τ : Ty K} (h : LF τ) : LFo (oList τ) := fun F F' _ _ k ⟨vs, e, p, z⟩ => ⟨vs, e, paired_mono (fun a b r => h F F' a b k r) p, z⟩
end

/-! ### contexts -/
/-- a local name: not known; data that stays; an object of one's own -/
inductive Slot (K : PySem.W.Frag) (S : Type) : Type 1
  | dead
  | fz (τ : Ty K) (f : S → τ.α)
  | ow (ω : OTy K) (f : S → ω.τ.α)
abbrev Ctx (K : PySem.W.Frag) (S : Type) := List (Slot K S)
section
variable {K : PySem.W.Frag} {S T : Type}
def Slot.comap (g : T → S) : Slot K S → Slot K T
  | .dead => .dead
  | .fz τ f => .fz τ fun t => f (g t)
  | .ow ω f => .ow ω fun t => f (g t)
abbrev Ctx.comap (g : T → S) (Δ : Ctx K S) : Ctx K T := Δ.map (Slot.comap g)
def SlotOk (F H : Hp) (s : S) (o : Option V) : Slot K S → Prop
  | .dead => True
  | .fz τ f => ∃ v, o = some v ∧ τ.rep F v (f s)
  | .ow ω f => ∃ p u, o = some (.ref p) ∧ F p = none ∧ H p = some u ∧ ω.own F u (f s)
structure Holds (Δ : Ctx K S) (s : S) (F H : Hp) (σ : L2.St) : Prop where
  len : σ.length = Δ.length
  at_ : ∀ (i : Nat) (sl : Slot K S) (o : Option V), Δ[i]? = some sl → σ[i]? = some o → SlotOk F H s o sl
  sep : ∀ (i j : Nat) (ω ω' : OTy K) (f : S → ω.τ.α) (f' : S → ω'.τ.α) (p : Addr), i ≠ j → Δ[i]? = some (.ow ω f) → Δ[j]? = some (.ow ω' f') → σ[i]? = some (some (.ref p)) → σ[j]? ≠ some (some (.ref p))
/-- the addresses that the slots ms hold -/
def MsAt (ms : List Nat) (σ : L2.St) (a : Addr) : Prop := ∃ i ∈ ms, σ[i]? = some (some (.ref a))
structure Gr (B : Addr → Prop) (F H F' H' : Hp) : Prop where
  ff : Same F F'
  fh : Same F' H'
  fresh : ∀ a o, F' a = some o → F a = some o ∨ H a = none
  keep : ∀ a o, H a = some o → ¬ B a → H' a = some o
  dom : ∀ a, H' a = none → H a = none
def No : Addr → Prop := fun _ => False
theorem msAt_nil {σ : L2.St} : MsAt [] σ = No := by
  funext a
  exact propext ⟨fun ⟨_, h, _⟩ => False.elim (by cases h), fun h => False.elim h⟩
section
variable {B B' : Addr → Prop} {F H F1 H1 F2 H2 : Hp}
theorem Gr.refl (h : Same F H) : Gr B F H F H := ⟨Same.refl F, h, fun _ _ h => .inl h, fun _ _ h _ => h, fun _ h => h⟩
theorem Gr.trans (a : Gr B F H F1 H1) (b : Gr B F1 H1 F2 H2) : Gr B F H F2 H2 where
  ff := a.ff.trans b.ff
  fh := b.fh
  fresh := fun x o h => (b.fresh x o h).elim (a.fresh x o) fun n => .inr (a.dom x n)
  keep := fun x o h n => b.keep x o (a.keep x o h n) n
  dom := fun x h => a.dom x (b.dom x h)
theorem Gr.mono (h : ∀ a, B a → B' a) (g : Gr B F H F1 H1) : Gr B' F H F1 H1 := ⟨g.ff, g.fh, g.fresh, fun a o e n => g.keep a o e fun z => n (h a z), g.dom⟩
theorem Gr.same (g : Gr No F H F1 H1) : Same H H1 := fun a o h => g.keep a o h fun z => z
theorem Gr.of0 (g : Gr No F H F1 H1) : Gr B F H F1 H1 := g.mono fun _ z => z.elim
theorem gr_mk (s : Same H H1) (ff : Same F F1) (fh : Same F1 H1) (fresh : ∀ a o, F1 a = some o → F a = some o ∨ H a = none) : Gr No F H F1 H1 := ⟨ff, fh, fresh, fun a o h _ => s a o h, fun _ h => s.free h⟩
theorem same_new {G : Hp} {p : Addr} {o : HO} (h : G p = none) : Same G (upd G p o) := fun a u e => by
  rw [upd_ne (ne_of_none e h)]
  exact e
theorem upd_mono {G G' : Hp} {p : Addr} {o : HO} (h : Same G G') : Same (upd G p o) (upd G' p o) := fun a u e => by
  by_cases x : a = p
  · subst x; rw [upd_same] at e ⊢; exact e
  · rw [upd_ne x] at e ⊢; exact h a u e
/-- a new object, frozen at once -/
theorem Gr.new {p : Addr} {o : HO} (h : Same F H) (n : H p = none) : Gr No F H (upd F p o) (upd H p o) :=
  gr_mk (same_new n) (same_new (h.free n)) (upd_mono h) fun a u e => by
    by_cases x : a = p
    · subst x; exact .inr n
    · rw [upd_ne x] at e; exact .inl e
/-- a new object of one's own -/
theorem Gr.newO {p : Addr} {o : HO} (h : Same F H) (n : H p = none) : Gr No F H F (upd H p o) :=
  gr_mk (same_new n) (Same.refl F) (h.trans (same_new n)) fun a u e => .inl e
end
theorem Holds.grow {Δ : Ctx K S} {s : S} {F H F' H' : Hp} {σ : L2.St} (h : Holds Δ s F H σ) (g : Gr No F H F' H') : Holds Δ s F' H' σ where
  len := h.len
  at_ := fun i sl o e1 e2 => by
    have r := h.at_ i sl o e1 e2
    cases sl with
    | dead => trivial
    | fz τ f => obtain ⟨v, e, q⟩ := r; exact ⟨v, e, τ.mono g.ff q⟩
    | ow ω f =>
      obtain ⟨p, u, e, n, hp, q⟩ := r
      refine ⟨p, u, e, ?_, g.same _ _ hp, ω.mono g.ff q⟩
      cases x : F' p with
      | none => rfl
      | some o' =>
        rcases g.fresh p o' x with z | z
        · rw [n] at z; cases z
        · rw [hp] at z; cases z
  sep := h.sep
/-- the slots outside of ms are told as before -/
structure Diff (ms : List Nat) (Δ Δ1 : Ctx K S) : Prop where
  len : Δ1.length = Δ.length
  out : ∀ k, k ∉ ms → Δ1[k]? = Δ[k]?
  own : ∀ (k : Nat) (ω : OTy K) (f : S → ω.τ.α), Δ1[k]? = some (Slot.ow ω f) → ∃ (ω' : OTy K) (f' : S → ω'.τ.α), Δ[k]? = some (Slot.ow ω' f')
theorem Diff.refl {ms : List Nat} {Δ : Ctx K S} : Diff ms Δ Δ := ⟨rfl, fun _ _ => rfl, fun _ _ _ h => ⟨_, _, h⟩⟩
theorem Diff.trans {m1 m2 : List Nat} {Δ Δ1 Δ2 : Ctx K S} (a : Diff m1 Δ Δ1) (b : Diff m2 Δ1 Δ2) : Diff (m1 ++ m2) Δ Δ2 :=
  ⟨b.len.trans a.len, fun k h => (b.out k fun z => h (List.mem_append_right _ z)).trans (a.out k fun z => h (List.mem_append_left _ z)),
    fun k ω f h => let ⟨ω', f', h'⟩ := b.own k ω f h; a.own k ω' f' h'⟩
/-- an own slot's object stood there -/
theorem Diff.was {ms : List Nat} {Δ Δ1 : Ctx K S} (d : Diff ms Δ Δ1) {s : S} {F H : Hp} {σ : L2.St} (hh : Holds Δ s F H σ) {k : Nat} {ω : OTy K} {f : S → ω.τ.α} {p : Addr} (h : Δ1[k]? = some (.ow ω f)) (e : σ[k]? = some (some (.ref p))) : F p = none ∧ H p ≠ none := by
  obtain ⟨ω', f', h'⟩ := d.own k ω f h
  obtain ⟨q, u, e', n, hp, _⟩ := hh.at_ k _ _ h' e
  cases e'
  exact ⟨n, by rw [hp]; exact fun z => nomatch z⟩
def Conj : List (S → Prop) → S → Prop
  | [], _ => True
  | c :: cs, s => c s ∧ Conj cs s
theorem conj_app {s : S} : ∀ {a b : List (S → Prop)}, Conj (a ++ b) s → Conj a s ∧ Conj b s
  | [], _, h => ⟨trivial, h⟩
  | c :: cs, b, h => by
    obtain ⟨h1, h2⟩ := h
    obtain ⟨h3, h4⟩ := conj_app (a := cs) h2
    exact ⟨⟨h1, h3⟩, h4⟩
theorem msAt_l {m1 m2 : List Nat} {σ : L2.St} : ∀ a, MsAt m1 σ a → MsAt (m1 ++ m2) σ a := fun a ⟨i, h, e⟩ => ⟨i, List.mem_append_left _ h, e⟩
theorem msAt_r {m1 m2 : List Nat} {σ : L2.St} : ∀ a, MsAt m2 σ a → MsAt (m1 ++ m2) σ a := fun a ⟨i, h, e⟩ => ⟨i, List.mem_append_right _ h, e⟩

/-! ### what an expression, a test, an argument list is worth -/
def DX (K : PySem.W.Frag) (X : Cx) (Δ : Ctx K S) (e : Expr) (τ : Ty K) (ms : List Nat) (cs : List (S → Prop)) (Δ1 : Ctx K S) (f : S → τ.α) (t : TE) : Prop :=
  Diff ms Δ Δ1 ∧ PE X e t ∧ ∀ s F H σ, Holds Δ s F H σ → Same F H → Conj cs s → ∀ Q : VK, (∀ v F' H', Gr (MsAt ms σ) F H F' H' → Holds Δ1 s F' H' σ → τ.rep F' v (f s) → Q v H') → t σ H Q
/-- a new object of one's own -/
def DO (K : PySem.W.Frag) (X : Cx) (Δ : Ctx K S) (e : Expr) (ω : OTy K) (ms : List Nat) (cs : List (S → Prop)) (Δ1 : Ctx K S) (f : S → ω.τ.α) (t : TE) : Prop :=
  Diff ms Δ Δ1 ∧ PE X e t ∧ ∀ s F H σ, Holds Δ s F H σ → Same F H → Conj cs s → ∀ Q : VK, (∀ p u F' H', Gr (MsAt ms σ) F H F' H' → Holds Δ1 s F' H' σ → H p = none → F' p = none → H' p = some u → ω.own F' u (f s) → Q (.ref p) H') → t σ H Q
def DT (K : PySem.W.Frag) (X : Cx) (Δ : Ctx K S) (e : Expr) (ms : List Nat) (cs : List (S → Prop)) (Δ1 : Ctx K S) (f : S → Bool) (t : TT) : Prop :=
  Diff ms Δ Δ1 ∧ PT X e t ∧ ∀ s F H σ, Holds Δ s F H σ → Same F H → Conj cs s → ∀ Q : Bool → Hp → Prop, (∀ F' H', Gr (MsAt ms σ) F H F' H' → Holds Δ1 s F' H' σ → Q (f s) H') → t σ H Q
/-- a test whatever its whole is -/
def DW (K : PySem.W.Frag) (X : Cx) (Δ : Ctx K S) (e : Expr) (ms : List Nat) (cs : List (S → Prop)) (Δ1 : Ctx K S) (f : S → Bool) (t : TT) : Prop :=
  Diff ms Δ Δ1 ∧ PW X e t ∧ ∀ s F H σ, Holds Δ s F H σ → Same F H → Conj cs s → ∀ Q : Bool → Hp → Prop, (∀ F' H', Gr (MsAt ms σ) F H F' H' → Holds Δ1 s F' H' σ → Q (f s) H') → t σ H Q
end
section
variable {K : PySem.W.Frag} {X : Cx} {S : Type} {Δ Δ1 Δ2 Δ3 : Ctx K S} {e a b c : Expr} {pos p' : Pos} {τ τ1 τ2 : Ty K} {ω : OTy K} {m1 m2 m3 ms : List Nat} {c1 c2 c3 cs : List (S → Prop)}
theorem DW.t {f : S → Bool} {t : TT} (h : DW K X Δ e ms cs Δ1 f t) : DT K X Δ e ms cs Δ1 f t := ⟨h.1, h.2.1.pt, h.2.2⟩

/-! #### names and constants -/
theorem DX.var {i : Nat} {x : Str} {f : S → τ.α} (h : Δ[i]? = some (.fz τ f)) (hN : X.N[i]? = some x := by rfl) (hv : Vis X.env.scope x := by first | exact Or.inl rfl | exact Or.inr (Or.inl rfl) | exact Or.inr (Or.inr rfl)) (hd : (x == ("__debug__" : Str)) = false := by decide)
    (hcd : (x == ("__classdict__" : Str)) = false := by decide) : DX K X Δ (.Name x pos) τ [] [] Δ f (tVar i) := by
  refine ⟨Diff.refl, pe_var hN hv hd hcd, fun s F H σ hh sm _ Q q => ?_⟩
  have hi : i < σ.length := by rw [hh.len]; exact (List.getElem?_eq_some_iff.mp h).1
  obtain ⟨o, ho⟩ : ∃ o, σ[i]? = some o := ⟨_, List.getElem?_eq_getElem hi⟩
  obtain ⟨v, e, r⟩ := hh.at_ i _ o h ho
  exact ⟨v, by rw [ho, e], q v F H (Gr.refl sm) hh r⟩
theorem DX.cst {v : V} {x : τ.α} (hp : PE X e (tC v)) (hr : ∀ F, τ.rep F v x) : DX K X Δ e τ [] [] Δ (fun _ => x) (tC v) :=
  ⟨Diff.refl, hp, fun _ F H _ hh sm _ _ q => q v F H (Gr.refl sm) hh (hr F)⟩
theorem DX.int {i : Int} {j : Nat} : DX K X Δ (.Constant (.int i) j pos) (tInt K) [] [] Δ (fun _ => i) (tC (.int i)) := DX.cst pe_int fun _ => rfl
theorem DX.tru {j : Nat} : DX K X Δ (.Constant (.bool true) j pos) (tBool K) [] [] Δ (fun _ => true) (tC (.bl true)) := DX.cst pe_bl fun _ => rfl
theorem DX.fls {j : Nat} : DX K X Δ (.Constant (.bool false) j pos) (tBool K) [] [] Δ (fun _ => false) (tC (.bl false)) := DX.cst pe_bl fun _ => rfl
theorem DX.str {x : Str} {j : Nat} (h : PyData.strOk x = true := by decide) : DX K X Δ (.Constant (.str x) j pos) (tStr K) [] [] Δ (fun _ => x) (tC (.str x)) := DX.cst pe_str fun _ => ⟨rfl, h⟩
theorem DX.non {j : Nat} : DX K X Δ (.Constant .none j pos) (tNone K) [] [] Δ (fun _ => ()) (tC .non) := DX.cst pe_non fun _ => rfl
theorem DX.nonO {j : Nat} : DX K X Δ (.Constant .none j pos) (tOpt τ) [] [] Δ (fun _ => none) (tC .non) := DX.cst pe_non fun _ => rfl
/-- a module's constant -/
theorem DX.glbI {x : Str} {i : Int} {t : Tok} (hg : Gl X x) (hm : X.mg x = some (.int i t)) (hd : (x == ("__debug__" : Str)) = false := by decide) : DX K X Δ (.Name x pos) (tInt K) [] [] Δ (fun _ => i) (tC (.int i)) := DX.cst (v := .int i) (pe_glob hg hm ⟨t, rfl⟩ hd) fun _ => rfl
theorem DX.glbS {x : Str} {i : Str} {t : Tok} (hg : Gl X x) (hm : X.mg x = some (.str i t)) (hd : (x == ("__debug__" : Str)) = false := by decide) (h : PyData.strOk i = true := by decide) : DX K X Δ (.Name x pos) (tStr K) [] [] Δ (fun _ => i) (tC (.str i)) := DX.cst (v := .str i) (pe_glob hg hm ⟨t, rfl⟩ hd) fun _ => ⟨rfl, h⟩

/-! #### turning one into another -/
/-- an object of one's own becomes data that stays -/
theorem DX.ofO {f : S → ω.τ.α} {t : TE} (h : DO K X Δ e ω ms cs Δ1 f t) : DX K X Δ e ω.τ ms cs Δ1 f t := by
  obtain ⟨d, ht, r⟩ := h
  refine ⟨d, ht, fun s F H σ hh sm hc Q q => r s F H σ hh sm hc Q fun p u F' H' g hh' hn fn hp ow => ?_⟩
  have s1 : Same F' (upd F' p u) := same_new fn
  have s2 : Same (upd F' p u) H' := fun a o e => by
    by_cases x : a = p
    · subst x; rw [upd_same] at e; rw [hp]; exact e
    · rw [upd_ne x] at e; exact g.fh a o e
  refine q _ (upd F' p u) H' ⟨g.ff.trans s1, s2, fun a o e => ?_, g.keep, g.dom⟩ ⟨hh'.len, fun i sl o e1 e2 => ?_, hh'.sep⟩ (ω.frz (ω.mono s1 ow) upd_same)
  · by_cases x : a = p
    · subst x; exact .inr hn
    · rw [upd_ne x] at e; exact g.fresh a o e
  · have r1 := hh'.at_ i sl o e1 e2
    cases sl with
    | dead => trivial
    | fz τ f => obtain ⟨v, e, q⟩ := r1; exact ⟨v, e, τ.mono s1 q⟩
    | ow ω2 f2 =>
      obtain ⟨p2, u2, e, n, hp2, q2⟩ := r1
      refine ⟨p2, u2, e, ?_, hp2, ω2.mono s1 q2⟩
      rw [upd_ne ?_]
      · exact n
      · intro z
        subst z
        subst e
        exact (d.was hh e1 e2).2 hn
end
end Dx

/-! Dx, part B: operators, comparisons, truth, displays, arguments. -/
namespace Dx
open PySem PySem.Spec PyProof.Rows L2

/-! ### data that is compared and shown -/
/-- a carrier as plain data: what it is, decidable equality, its depth -/
structure DF (α : Type) where
  toD : α → PyData
  dec : DecidableEq α
  n : Nat
abbrev DF.eq {α : Type} (d : DF α) (x y : α) : Bool := @decide (x = y) (d.dec x y)
def dfInt : DF Int := ⟨.int, inferInstance, 1⟩
def dfBool : DF Bool := ⟨.bool, inferInstance, 1⟩
def dfStr : DF Str := ⟨.str, inferInstance, 1⟩
def dfOpt {α : Type} (d : DF α) : DF (Option α) := ⟨fun | none => .none | some x => d.toD x, @Option.instDecidableEq α d.dec, max d.n 1⟩
def dfList {α : Type} (d : DF α) : DF (List α) := ⟨fun xs => .list (xs.map d.toD), @instDecidableEqList α d.dec, d.n + 1⟩
def dfT2 {α β : Type} (d : DF α) (e : DF β) : DF (α × β) := ⟨fun x => .tuple [d.toD x.1, e.toD x.2], @instDecidableEqProd α β d.dec e.dec, max d.n e.n + 1⟩
def dfT3 {α β γ : Type} (d : DF α) (e : DF β) (g : DF γ) : DF (α × β × γ) := ⟨fun x => .tuple [d.toD x.1, e.toD x.2.1, g.toD x.2.2], @instDecidableEqProd α (β × γ) d.dec (@instDecidableEqProd β γ e.dec g.dec), max d.n (max e.n g.n) + 1⟩
/-- repr(x) is told: its ints are short, its text is not too long -/
def ShowOk {α : Type} (d : DF α) (x : α) : Prop := (d.toD x).showable = true ∧ (d.toD x).shown.length ≤ sizeLine
def reprOf {α : Type} (d : DF α) (x : α) : Str := (d.toD x).shown

/-- what is plain about it -/
structure PlainD {α : Type} (d : DF α) : Prop where
  dep : ∀ x, (d.toD x).depth ≤ d.n
  eqv : ∀ x y, PyData.eqv (d.toD x) (d.toD y) = d.eq x y
  nodict : ∀ x, (d.toD x).hasDict = false
theorem pd_int : PlainD dfInt := ⟨fun _ => Nat.zero_le _, fun x y => by simp [dfInt, PyData.eqv, DF.eq, Bool.beq_eq_decide_eq], fun _ => rfl⟩
theorem pd_bool : PlainD dfBool := ⟨fun _ => Nat.zero_le _, fun x y => by simp [dfBool, PyData.eqv, DF.eq, Bool.beq_eq_decide_eq], fun _ => rfl⟩
theorem pd_str : PlainD dfStr := ⟨fun _ => Nat.zero_le _, fun x y => by simp [dfStr, PyData.eqv, DF.eq, Bool.beq_eq_decide_eq], fun _ => rfl⟩
theorem dep_all {α : Type} {f : α → PyData} {n : Nat} (h : ∀ x, (f x).depth ≤ n) : ∀ xs : List α, PyData.depthAll (xs.map f) ≤ n
  | [] => Nat.zero_le _
  | x :: xs => by show max (PyData.depth (f x)) _ ≤ n; exact Nat.max_le.mpr ⟨h x, dep_all h xs⟩
theorem nod_all {α : Type} {f : α → PyData} (h : ∀ x, (f x).hasDict = false) : ∀ xs : List α, PyData.hasDictAll (xs.map f) = false
  | [] => rfl
  | x :: xs => by show (PyData.hasDict (f x) || _) = false; rw [h x, nod_all h xs]; rfl
theorem eqv_all {α : Type} (d : DF α) (h : ∀ x y, PyData.eqv (d.toD x) (d.toD y) = d.eq x y) : ∀ xs ys : List α, PyData.eqvAll (xs.map d.toD) (ys.map d.toD) = @decide (xs = ys) (@instDecidableEqList α d.dec xs ys)
  | [], [] => by simp [PyData.eqvAll]
  | [], y :: ys => by simp [PyData.eqvAll]
  | x :: xs, [] => by simp [PyData.eqvAll]
  | x :: xs, y :: ys => by
    have e := h x y
    have t := eqv_all d h xs ys
    simp only [List.map_cons, PyData.eqvAll, e, t, DF.eq]
    rw [Bool.eq_iff_iff]
    simp
theorem pd_list {α : Type} {d : DF α} (h : PlainD d) : PlainD (dfList d) := ⟨fun xs => Nat.succ_le_succ (dep_all h.dep xs), fun xs ys => eqv_all d h.eqv xs ys, fun xs => nod_all h.nodict xs⟩
/-- never None -/
def NotN {α : Type} (d : DF α) : Prop := ∀ x, PyData.eqv .none (d.toD x) = false ∧ PyData.eqv (d.toD x) .none = false
theorem nn_int : NotN dfInt := fun _ => ⟨by simp [dfInt, PyData.eqv], by simp [dfInt, PyData.eqv]⟩
theorem pd_opt {α : Type} {d : DF α} (h : PlainD d) (hn : NotN d) : PlainD (dfOpt d) where
  dep := fun x => by cases x with
    | none => exact Nat.zero_le _
    | some y => exact Nat.le_trans (h.dep y) (Nat.le_max_left _ _)
  eqv := fun x y => by
    cases x with
    | none =>
      cases y with
      | none => simp [dfOpt, PyData.eqv, DF.eq]
      | some y => show PyData.eqv .none (d.toD y) = _; rw [(hn y).1]; simp [DF.eq]
    | some x =>
      cases y with
      | none => show PyData.eqv (d.toD x) .none = _; rw [(hn x).2]; simp [DF.eq]
      | some y => show PyData.eqv (d.toD x) (d.toD y) = _; rw [h.eqv x y]; simp [DF.eq]
  nodict := fun x => by cases x with
    | none => rfl
    | some y => exact h.nodict y
theorem pd_t2 {α β : Type} {d : DF α} {e : DF β} (h : PlainD d) (k : PlainD e) : PlainD (dfT2 d e) := ⟨fun x => by
    have := h.dep x.1
    have := k.dep x.2
    simp only [dfT2, PyData.depth, PyData.depthAll]; omega, fun x y => by
    simp only [dfT2, PyData.eqv, PyData.eqvAll, h.eqv, k.eqv, DF.eq, Bool.and_true]
    rw [Bool.eq_iff_iff]
    simp [Prod.ext_iff], fun x => by simp [dfT2, PyData.hasDict, PyData.hasDictAll, h.nodict, k.nodict]⟩
/-- the data of a type is that plain data -/
structure Dat {K : PySem.W.Frag} (τ : Ty K) (d : DF τ.α) : Prop where
  dp : ∀ {F : Hp} {v : V} {x : τ.α}, τ.rep F v x → Dp K F v (d.toD x)
  lay : ∀ {F : Hp} {v : V} {x : τ.α}, τ.rep F v x → (d.toD x).canLay0 = true
  pl : PlainD d
section
variable {K : PySem.W.Frag}
theorem dat_int : Dat (tInt K) dfInt := ⟨fun r => by subst r; exact .int _, fun _ => rfl, pd_int⟩
theorem dat_bool : Dat (tBool K) dfBool := ⟨fun r => by subst r; exact .bl _, fun _ => rfl, pd_bool⟩
theorem dat_str : Dat (tStr K) dfStr := ⟨fun r => by rw [r.1]; exact .str _, fun r => r.2, pd_str⟩
theorem dp_all {τ : Ty K} {d : DF τ.α} (h : Dat τ d) {F : Hp} : ∀ {vs : List V} {xs : List τ.α}, Paired (τ.rep F) vs xs → DpAll K F vs (xs.map d.toD) ∧ PyData.canLayAll0 (xs.map d.toD) = true
  | _, _, .nil => ⟨.nil, rfl⟩
  | _, _, .cons r t => ⟨.cons (h.dp r) (dp_all h t).1, by show (PyData.canLay0 _ && _) = true; rw [h.lay r, (dp_all h t).2]; rfl⟩
theorem dat_list {τ : Ty K} {d : DF τ.α} (h : Dat τ d) : Dat (tList τ) (dfList d) := ⟨fun ⟨a, vs, e, q, p, _⟩ => by
    rw [e]
    exact .lst (.inl (.inl q)) (dp_all h p).1, fun ⟨a, vs, e, q, p, _⟩ => (dp_all h p).2, pd_list h.pl⟩
theorem dpi_all {F : Hp} : ∀ xs : List Int, DpAll K F (xs.map V.int) (xs.map dfInt.toD)
  | [] => .nil
  | x :: xs => .cons (.int x) (dpi_all xs)
theorem layi_all : ∀ xs : List Int, PyData.canLayAll0 (xs.map dfInt.toD) = true
  | [] => rfl
  | x :: xs => layi_all xs
theorem dat_scr : Dat (tScr K) (dfList dfInt) := ⟨fun {F v x} ⟨a, e, q, _⟩ => by
    rw [e]
    exact .lst q (dpi_all x), fun {F v x} _ => layi_all x, pd_list pd_int⟩
theorem dat_opt {τ : Ty K} {d : DF τ.α} (h : Dat τ d) (hn : NotN d) : Dat (tOpt τ) (dfOpt d) where
  dp := fun {F v x} r => by
    cases x with
    | none => rw [show v = V.non from r]; exact .non
    | some y => exact h.dp r.2
  lay := fun {F v x} r => by cases x with
    | none => rfl
    | some y => exact h.lay r.2
  pl := pd_opt h.pl hn
theorem st_any {F : Hp} {a : Addr} {vs : List V} (h : F a = some (.tup vs)) : SqT K F a vs := .inl (.inl h)
theorem dat_t2 {τ1 τ2 : Ty K} {d1 : DF τ1.α} {d2 : DF τ2.α} (h1 : Dat τ1 d1) (h2 : Dat τ2 d2) : Dat (tTp [τ1, τ2]) (dfT2 d1 d2) := ⟨fun ⟨a, vs, e, q, v, r, e2, r1, w, e3, r2⟩ => by
    subst e e3 e2
    exact .tup (st_any q) (.cons (h1.dp r1) (.cons (h2.dp r2) .nil)), fun ⟨a, vs, e, q, v, r, e2, r1, w, e3, r2⟩ => by
    show (PyData.canLay0 _ && (PyData.canLay0 _ && true)) = true
    rw [h1.lay r1, h2.lay r2]; rfl, pd_t2 h1.pl h2.pl⟩
end

/-! ### operators on data -/
section
variable {ta tb : TE} {tx ty tz : TT} {K : PySem.W.Frag} {X : Cx} {S : Type} {Δ Δ1 Δ2 Δ3 : Ctx K S} {e a b c : Expr} {pos p' : Pos} {τ τa τb τ1 τ2 : Ty K} {ω : OTy K} {m1 m2 m3 ms : List Nat} {c1 c2 c3 cs : List (S → Prop)} {op : Operator} {cop : CmpOp}
def ConjC {α β : Type} : List (α → β → Prop) → α → β → Prop
  | [], _, _ => True
  | c :: cs, x, y => c x y ∧ ConjC cs x y
theorem conjC {α β : Type} {fa : S → α} {fb : S → β} {s : S} : ∀ {cc : List (α → β → Prop)}, Conj (cc.map fun c s => c (fa s) (fb s)) s → ConjC cc (fa s) (fb s)
  | [], _ => trivial
  | c :: cc, h => ⟨h.1, conjC (cc := cc) h.2⟩
/-- what a two-place operation makes of data -/
def R2ok (K : PySem.W.Frag) (r : R2) (τa τb τ : Ty K) (cc : List (τa.α → τb.α → Prop)) (g : τa.α → τb.α → τ.α) : Prop :=
  ∀ x y v u F H, Same F H → τa.rep F v x → τb.rep F u y → ConjC cc x y → ∀ Q : VK, (∀ z F' H', Gr No F H F' H' → τ.rep F' z (g x y) → Q z H') → r v u H Q
/-- .. a new object of one's own -/
def R2new (K : PySem.W.Frag) (r : R2) (τa τb : Ty K) (ω : OTy K) (cc : List (τa.α → τb.α → Prop)) (g : τa.α → τb.α → ω.τ.α) : Prop :=
  ∀ x y v u F H, Same F H → τa.rep F v x → τb.rep F u y → ConjC cc x y → ∀ Q : VK, (∀ p z, H p = none → ω.own F z (g x y) → Q (.ref p) (upd H p z)) → r v u H Q
theorem DX.bin {r : R2} {cc : List (τa.α → τb.α → Prop)} {g : τa.α → τb.α → τ.α} {fa : S → τa.α} {fb : S → τb.α} (hr : R2ok K r τa τb τ cc g) (ha : DX K X Δ a τa m1 c1 Δ1 fa ta) (hb : DX K X Δ1 b τb m2 c2 Δ2 fb tb)
    (hop : PE X a ta → PE X b tb → PE X e (tOp r ta tb)) : DX K X Δ e τ (m1 ++ m2) (c1 ++ (c2 ++ cc.map fun c s => c (fa s) (fb s))) Δ2 (fun s => g (fa s) (fb s)) (tOp r ta tb) := by
  obtain ⟨d1, pa, ra⟩ := ha
  obtain ⟨d2, pb, rb⟩ := hb
  refine ⟨d1.trans d2, hop pa pb, fun s F H σ hh sm hc Q q => ?_⟩
  obtain ⟨h1, h2⟩ := conj_app hc
  obtain ⟨h2, h3⟩ := conj_app h2
  refine ra s F H σ hh sm h1 _ fun v F1 H1 g1 hh1 r1 => ?_
  refine rb s F1 H1 σ hh1 g1.fh h2 _ fun u F2 H2 g2 hh2 r2 => ?_
  have g12 := (g1.mono (msAt_l (m2 := m2))).trans (g2.mono (msAt_r (m1 := m1)))
  exact hr _ _ v u F2 H2 g2.fh (τa.mono g2.ff r1) r2 (conjC h3) Q fun z F3 H3 g3 r3 => q z F3 H3 (g12.trans g3.of0) (hh2.grow g3) r3
theorem DT.bin {r : R2} {cc : List (τa.α → τb.α → Prop)} {g : τa.α → τb.α → Bool} {fa : S → τa.α} {fb : S → τb.α} (hr : R2ok K r τa τb (tBool K) cc g) (ha : DX K X Δ a τa m1 c1 Δ1 fa ta) (hb : DX K X Δ1 b τb m2 c2 Δ2 fb tb)
    (hop : PE X a ta → PE X b tb → PT X e (tTest (tOp r ta tb))) : DT K X Δ e (m1 ++ m2) (c1 ++ (c2 ++ cc.map fun c s => c (fa s) (fb s))) Δ2 (fun s => g (fa s) (fb s)) (tTest (tOp r ta tb)) := by
  obtain ⟨d1, pa, ra⟩ := ha
  obtain ⟨d2, pb, rb⟩ := hb
  refine ⟨d1.trans d2, hop pa pb, fun s F H σ hh sm hc Q q => ?_⟩
  obtain ⟨h1, h2⟩ := conj_app hc
  obtain ⟨h2, h3⟩ := conj_app h2
  refine ra s F H σ hh sm h1 _ fun v F1 H1 g1 hh1 r1 => ?_
  refine rb s F1 H1 σ hh1 g1.fh h2 _ fun u F2 H2 g2 hh2 r2 => ?_
  have g12 := (g1.mono (msAt_l (m2 := m2))).trans (g2.mono (msAt_r (m1 := m1)))
  exact hr _ _ v u F2 H2 g2.fh (τa.mono g2.ff r1) r2 (conjC h3) _ fun z F3 H3 g3 r3 => ⟨_, r3, q F3 H3 (g12.trans g3.of0) (hh2.grow g3)⟩
theorem own_of_new {F H : Hp} {p : Addr} {z : HO} {x : ω.τ.α} (sm : Same F H) (n : H p = none) (o : ω.own F z x) : Gr No F H F (upd H p z) ∧ F p = none ∧ (upd H p z) p = some z := ⟨Gr.newO sm n, sm.free n, upd_same⟩
theorem DO.bin {r : R2} {cc : List (τa.α → τb.α → Prop)} {g : τa.α → τb.α → ω.τ.α} {fa : S → τa.α} {fb : S → τb.α} (hr : R2new K r τa τb ω cc g) (ha : DX K X Δ a τa m1 c1 Δ1 fa ta) (hb : DX K X Δ1 b τb m2 c2 Δ2 fb tb)
    (hop : PE X a ta → PE X b tb → PE X e (tOp r ta tb)) : DO K X Δ e ω (m1 ++ m2) (c1 ++ (c2 ++ cc.map fun c s => c (fa s) (fb s))) Δ2 (fun s => g (fa s) (fb s)) (tOp r ta tb) := by
  obtain ⟨d1, pa, ra⟩ := ha
  obtain ⟨d2, pb, rb⟩ := hb
  refine ⟨d1.trans d2, hop pa pb, fun s F H σ hh sm hc Q q => ?_⟩
  obtain ⟨h1, h2⟩ := conj_app hc
  obtain ⟨h2, h3⟩ := conj_app h2
  refine ra s F H σ hh sm h1 _ fun v F1 H1 g1 hh1 r1 => ?_
  refine rb s F1 H1 σ hh1 g1.fh h2 _ fun u F2 H2 g2 hh2 r2 => ?_
  have g12 := (g1.mono (msAt_l (m2 := m2))).trans (g2.mono (msAt_r (m1 := m1)))
  refine hr _ _ v u F2 H2 g2.fh (τa.mono g2.ff r1) r2 (conjC h3) Q fun p z n o => ?_
  obtain ⟨g3, fn, e3⟩ := own_of_new g2.fh n o
  exact q p z F2 _ (g12.trans g3.of0) (hh2.grow g3) (g12.dom p n) fn e3 o

/-! #### whole numbers -/
theorem r2_I0 {g : Int → Int → V} {h : Int → Int → τ.α} (hg : ∀ F x y, τ.rep F (g x y) (h x y)) : R2ok K (rI0 g) (tInt K) (tInt K) τ [] h := fun x y v u F H sm r1 r2 _ Q q => by
  subst r1 r2
  exact ⟨x, y, rfl, rfl, q _ F H (Gr.refl sm) (hg F x y)⟩
theorem r2_I {C : Int → Int → Prop} {g : Int → Int → V} {h : Int → Int → τ.α} (hg : ∀ F x y, τ.rep F (g x y) (h x y)) : R2ok K (rI C g) (tInt K) (tInt K) τ [C] h := fun x y v u F H sm r1 r2 hc Q q => by
  subst r1 r2
  exact ⟨x, y, rfl, rfl, hc.1, q _ F H (Gr.refl sm) (hg F x y)⟩
variable {fa fb : S → Int}
theorem DX.add (ha : DX K X Δ a (tInt K) m1 c1 Δ1 fa ta) (hb : DX K X Δ1 b (tInt K) m2 c2 Δ2 fb tb) : DX K X Δ (.BinOp a .Add b pos) (tInt K) (m1 ++ m2) (c1 ++ (c2 ++ [])) Δ2 (fun s => fa s + fb s) (tOp (rI0 fun i j => .int (i + j)) ta tb) :=
  DX.bin (g := fun x y => x + y) (r2_I0 fun _ _ _ => rfl) ha hb fun p q => pe_op op_add p q
theorem DX.sub (ha : DX K X Δ a (tInt K) m1 c1 Δ1 fa ta) (hb : DX K X Δ1 b (tInt K) m2 c2 Δ2 fb tb) : DX K X Δ (.BinOp a .Sub b pos) (tInt K) (m1 ++ m2) (c1 ++ (c2 ++ [])) Δ2 (fun s => fa s - fb s) (tOp (rI0 fun i j => .int (i - j)) ta tb) :=
  DX.bin (g := fun x y => x - y) (r2_I0 fun _ _ _ => rfl) ha hb fun p q => pe_op op_sub p q
/-- a comparison of two ints, as a value and as a test -/
theorem DX.cmpI {P : Int → Int → Bool} (ho : OpR X (compareOp cop) (rI0 fun i j => .bl (P i j))) (hm : behindInMarks cop b = false) (ha : DX K X Δ a (tInt K) m1 c1 Δ1 fa ta) (hb : DX K X Δ1 b (tInt K) m2 c2 Δ2 fb tb) : DX K X Δ (.Compare a [cop] [b] pos) (tBool K) (m1 ++ m2) (c1 ++ (c2 ++ [])) Δ2 (fun s => P (fa s) (fb s)) (tOp (rI0 fun i j => .bl (P i j)) ta tb) :=
  DX.bin (τ := tBool K) (cc := []) (g := fun (x y : Int) => P x y) (r2_I0 fun _ _ _ => rfl) ha hb fun p q => pe_cmpR ho p q hm
theorem DT.cmpI {P : Int → Int → Bool} (ho : OpR X (compareOp cop) (rI0 fun i j => .bl (P i j))) (hm : behindInMarks cop b = false) (ha : DX K X Δ a (tInt K) m1 c1 Δ1 fa ta) (hb : DX K X Δ1 b (tInt K) m2 c2 Δ2 fb tb) : DT K X Δ (.Compare a [cop] [b] pos) (m1 ++ m2) (c1 ++ (c2 ++ [])) Δ2 (fun s => P (fa s) (fb s)) (tTest (tOp (rI0 fun i j => .bl (P i j)) ta tb)) :=
  DT.bin (cc := []) (g := fun (x y : Int) => P x y) (r2_I0 fun _ _ _ => rfl) ha hb fun p q => pt_cmpR ho p q hm
theorem DX.lt (ha : DX K X Δ a (tInt K) m1 c1 Δ1 fa ta) (hb : DX K X Δ1 b (tInt K) m2 c2 Δ2 fb tb) : DX K X Δ (.Compare a [.Lt] [b] pos) (tBool K) (m1 ++ m2) (c1 ++ (c2 ++ [])) Δ2 (fun s => decide (fa s < fb s)) (tOp (rI0 fun i j => .bl (decide (i < j))) ta tb) := DX.cmpI op_lt (nomark _) ha hb
theorem DX.le (ha : DX K X Δ a (tInt K) m1 c1 Δ1 fa ta) (hb : DX K X Δ1 b (tInt K) m2 c2 Δ2 fb tb) : DX K X Δ (.Compare a [.LtE] [b] pos) (tBool K) (m1 ++ m2) (c1 ++ (c2 ++ [])) Δ2 (fun s => decide (fa s ≤ fb s)) (tOp (rI0 fun i j => .bl (decide (i ≤ j))) ta tb) := DX.cmpI op_le (nomark _) ha hb
theorem DX.gt (ha : DX K X Δ a (tInt K) m1 c1 Δ1 fa ta) (hb : DX K X Δ1 b (tInt K) m2 c2 Δ2 fb tb) : DX K X Δ (.Compare a [.Gt] [b] pos) (tBool K) (m1 ++ m2) (c1 ++ (c2 ++ [])) Δ2 (fun s => decide (fb s < fa s)) (tOp (rI0 fun i j => .bl (decide (j < i))) ta tb) := DX.cmpI (P := fun i j => decide (j < i)) op_gt (nomark _) ha hb
theorem DX.ge (ha : DX K X Δ a (tInt K) m1 c1 Δ1 fa ta) (hb : DX K X Δ1 b (tInt K) m2 c2 Δ2 fb tb) : DX K X Δ (.Compare a [.GtE] [b] pos) (tBool K) (m1 ++ m2) (c1 ++ (c2 ++ [])) Δ2 (fun s => decide (fb s ≤ fa s)) (tOp (rI0 fun i j => .bl (decide (j ≤ i))) ta tb) := DX.cmpI (P := fun i j => decide (j ≤ i)) op_ge (nomark _) ha hb
theorem DT.lt (ha : DX K X Δ a (tInt K) m1 c1 Δ1 fa ta) (hb : DX K X Δ1 b (tInt K) m2 c2 Δ2 fb tb) : DT K X Δ (.Compare a [.Lt] [b] pos) (m1 ++ m2) (c1 ++ (c2 ++ [])) Δ2 (fun s => decide (fa s < fb s)) (tTest (tOp (rI0 fun i j => .bl (decide (i < j))) ta tb)) := DT.cmpI op_lt (nomark _) ha hb
theorem DT.le (ha : DX K X Δ a (tInt K) m1 c1 Δ1 fa ta) (hb : DX K X Δ1 b (tInt K) m2 c2 Δ2 fb tb) : DT K X Δ (.Compare a [.LtE] [b] pos) (m1 ++ m2) (c1 ++ (c2 ++ [])) Δ2 (fun s => decide (fa s ≤ fb s)) (tTest (tOp (rI0 fun i j => .bl (decide (i ≤ j))) ta tb)) := DT.cmpI op_le (nomark _) ha hb
theorem DT.gt (ha : DX K X Δ a (tInt K) m1 c1 Δ1 fa ta) (hb : DX K X Δ1 b (tInt K) m2 c2 Δ2 fb tb) : DT K X Δ (.Compare a [.Gt] [b] pos) (m1 ++ m2) (c1 ++ (c2 ++ [])) Δ2 (fun s => decide (fb s < fa s)) (tTest (tOp (rI0 fun i j => .bl (decide (j < i))) ta tb)) := DT.cmpI (P := fun i j => decide (j < i)) op_gt (nomark _) ha hb
theorem DT.ge (ha : DX K X Δ a (tInt K) m1 c1 Δ1 fa ta) (hb : DX K X Δ1 b (tInt K) m2 c2 Δ2 fb tb) : DT K X Δ (.Compare a [.GtE] [b] pos) (m1 ++ m2) (c1 ++ (c2 ++ [])) Δ2 (fun s => decide (fb s ≤ fa s)) (tTest (tOp (rI0 fun i j => .bl (decide (j ≤ i))) ta tb)) := DT.cmpI (P := fun i j => decide (j ≤ i)) op_ge (nomark _) ha hb
/-- n // m, n % m: m positive, not too long -/
theorem DX.fdiv (ha : DX K X Δ a (tInt K) m1 c1 Δ1 fa ta) (hb : DX K X Δ1 b (tInt K) m2 c2 Δ2 fb tb) : DX K X Δ (.BinOp a .FloorDiv b pos) (tInt K) (m1 ++ m2) (c1 ++ (c2 ++ [fun s => CDivW (fa s) (fb s)])) Δ2 (fun s => fa s / fb s) (tOp (rI CDivW fun i j => .int (i / j)) ta tb) :=
  DX.bin (g := fun x y => x / y) (r2_I fun _ _ _ => rfl) ha hb fun p q => pe_op op_fdivW p q
def CPosM (_ j : Int) : Prop := 0 < j
def rModP : R2 := rI CPosM fun i j => .int (i % j)
theorem op_modP : OpR X (binaryOp .Mod) rModP := fun pins s σ H x y v u Q I rx ry ⟨i, j, e1, e2, c, q⟩ =>
  op_modN pins s σ H x y v u Q I rx ry ⟨i, j, e1, e2, Int.ne_of_gt c, by
    show Q (V.int (i.fmod j)) H
    rw [Int.fmod_eq_emod_of_nonneg i (Int.le_of_lt c)]
    exact q⟩
theorem DX.mod (ha : DX K X Δ a (tInt K) m1 c1 Δ1 fa ta) (hb : DX K X Δ1 b (tInt K) m2 c2 Δ2 fb tb) : DX K X Δ (.BinOp a .Mod b pos) (tInt K) (m1 ++ m2) (c1 ++ (c2 ++ [fun s => CPosM (fa s) (fb s)])) Δ2 (fun s => fa s % fb s) (tOp rModP ta tb) :=
  DX.bin (g := fun x y => x % y) (r2_I fun _ _ _ => rfl) ha hb fun p q => pe_op op_modP p q
/-- n * m of together less than 2 ^ 24 bits -/
def CMulX (i j : Int) : Prop := i.natAbs.log2 + j.natAbs.log2 < 16777216
theorem CMulX.ok {i j : Int} (h : CMulX i j) : IntMulOk i j := by
  have b : ∀ x : Int, Builtin.Int.intBits x ≤ x.natAbs.log2 + 1 := fun x => by
    unfold Builtin.Int.intBits
    split <;> omega
  have h1 := b i
  have h2 := b j
  have h3 : i.natAbs.log2 + j.natAbs.log2 < 16777216 := h
  have e : bitsLine = 134217728 := by decide
  intro z
  have z2 := (Bool.and_eq_true _ _ ▸ z).2
  unfold Builtin.Int.intTooBig at z2
  have z3 := of_decide_eq_true z2
  omega
theorem op_mulX : OpR X (binaryOp .Mult) (rI CMulX fun i j => .int (i * j)) := opI fun _ _ _ _ _ _ _ hc q => mul_int q hc.ok
theorem DX.mul (ha : DX K X Δ a (tInt K) m1 c1 Δ1 fa ta) (hb : DX K X Δ1 b (tInt K) m2 c2 Δ2 fb tb) : DX K X Δ (.BinOp a .Mult b pos) (tInt K) (m1 ++ m2) (c1 ++ (c2 ++ [fun s => CMulX (fa s) (fb s)])) Δ2 (fun s => fa s * fb s) (tOp (rI CMulX fun i j => .int (i * j)) ta tb) :=
  DX.bin (g := fun x y => x * y) (r2_I fun _ _ _ => rfl) ha hb fun p q => pe_op op_mulX p q
theorem DX.neg (ha : DX K X Δ a (tInt K) m1 c1 Δ1 fa ta) : DX K X Δ (.UnaryOp .USub a pos) (tInt K) m1 c1 Δ1 (fun s => - fa s) (tUn (rU fun i => .int (-i)) ta) := by
  obtain ⟨d1, pa, ra⟩ := ha
  refine ⟨d1, pe_un un_neg pa, fun s F H σ hh sm hc Q q => ?_⟩
  exact ra s F H σ hh sm hc _ fun v F1 H1 g1 hh1 r1 => ⟨fa s, r1, q _ F1 H1 g1 hh1 rfl⟩

/-! #### == and != of data -/
theorem r2_eqD {d : DF τ.α} (h : Dat τ d) (hn : d.n ≤ 64) : R2ok K (rEqD K) τ τ (tBool K) [] (fun x y => d.eq x y) := fun x y v u F H sm r1 r2 _ Q q => by
  have lo : ∀ {z w}, τ.rep F w z → Dp K H w (d.toD z) ∧ SeqAt.shaped (d.toD z) = true := fun {z w} r => ⟨h.dp (τ.mono sm r), by
    unfold SeqAt.shaped
    rw [h.lay r, Bool.true_and]
    exact decide_eq_true (Nat.le_trans (h.pl.dep z) hn)⟩
  exact ⟨_, _, (lo r1).1, (lo r2).1, (lo r1).2, (lo r2).2, by rw [h.pl.eqv]; exact q _ F H (Gr.refl sm) rfl⟩
theorem r2_neD {d : DF τ.α} (h : Dat τ d) (hn : d.n ≤ 64) : R2ok K (rNeD K) τ τ (tBool K) [] (fun x y => !d.eq x y) := fun x y v u F H sm r1 r2 _ Q q => by
  have lo : ∀ {z w}, τ.rep F w z → Dp K H w (d.toD z) ∧ SeqAt.shaped (d.toD z) = true := fun {z w} r => ⟨h.dp (τ.mono sm r), by
    unfold SeqAt.shaped
    rw [h.lay r, Bool.true_and]
    exact decide_eq_true (Nat.le_trans (h.pl.dep z) hn)⟩
  exact ⟨_, _, (lo r1).1, (lo r2).1, (lo r1).2, (lo r2).2, by rw [h.pl.eqv]; exact q _ F H (Gr.refl sm) rfl⟩
section
variable {ga gb : S → τ.α} {k : Nat} {d : DF τ.α}
theorem DX.eq (hr : Room k X.A) (h : Dat τ d) (ha : DX K X Δ a τ m1 c1 Δ1 ga ta) (hb : DX K X Δ1 b τ m2 c2 Δ2 gb tb) (hn : d.n ≤ 64 := by decide) (hK : X.K = K := by rfl) : DX K X Δ (.Compare a [.Eq] [b] pos) (tBool K) (m1 ++ m2) (c1 ++ (c2 ++ [])) Δ2 (fun s => d.eq (ga s) (gb s)) (tOp (rEqD K) ta tb) := by
  subst hK
  exact DX.bin (r2_eqD h hn) ha hb fun p q => pe_cmpR (op_eqD hr.units) p q (nomark _)
theorem DX.ne (hr : Room k X.A) (h : Dat τ d) (ha : DX K X Δ a τ m1 c1 Δ1 ga ta) (hb : DX K X Δ1 b τ m2 c2 Δ2 gb tb) (hn : d.n ≤ 64 := by decide) (hK : X.K = K := by rfl) : DX K X Δ (.Compare a [.NotEq] [b] pos) (tBool K) (m1 ++ m2) (c1 ++ (c2 ++ [])) Δ2 (fun s => !d.eq (ga s) (gb s)) (tOp (rNeD K) ta tb) := by
  subst hK
  exact DX.bin (r2_neD h hn) ha hb fun p q => pe_cmpR (op_neD hr.units) p q (nomark _)
theorem DT.eq (hr : Room k X.A) (h : Dat τ d) (ha : DX K X Δ a τ m1 c1 Δ1 ga ta) (hb : DX K X Δ1 b τ m2 c2 Δ2 gb tb) (hn : d.n ≤ 64 := by decide) (hK : X.K = K := by rfl) : DT K X Δ (.Compare a [.Eq] [b] pos) (m1 ++ m2) (c1 ++ (c2 ++ [])) Δ2 (fun s => d.eq (ga s) (gb s)) (tTest (tOp (rEqD K) ta tb)) := by
  subst hK
  exact DT.bin (r2_eqD h hn) ha hb fun p q => pt_cmpR (op_eqD hr.units) p q (nomark _)
theorem DT.ne (hr : Room k X.A) (h : Dat τ d) (ha : DX K X Δ a τ m1 c1 Δ1 ga ta) (hb : DX K X Δ1 b τ m2 c2 Δ2 gb tb) (hn : d.n ≤ 64 := by decide) (hK : X.K = K := by rfl) : DT K X Δ (.Compare a [.NotEq] [b] pos) (m1 ++ m2) (c1 ++ (c2 ++ [])) Δ2 (fun s => !d.eq (ga s) (gb s)) (tTest (tOp (rNeD K) ta tb)) := by
  subst hK
  exact DT.bin (r2_neD h hn) ha hb fun p q => pt_cmpR (op_neD hr.units) p q (nomark _)
end
/-- is None, is not None -/
theorem opt_n {F : Hp} {v : V} {x : Option τ.α} (r : (tOpt τ).rep F v x) : decide (v = .non) = x.isNone := by
  cases x with
  | none => rw [show v = V.non from r]; rfl
  | some y => exact decide_eq_false r.1
theorem opt_s {F : Hp} {v : V} {x : Option τ.α} (r : (tOpt τ).rep F v x) : (!decide (v = .non)) = x.isSome := by
  rw [opt_n r]
  cases x <;> rfl
theorem DX.isN {f : S → Option τ.α} (ha : DX K X Δ a (tOpt τ) m1 c1 Δ1 f ta) {j : Nat} : DX K X Δ (.Compare a [.Is] [.Constant .none j p'] pos) (tBool K) m1 c1 Δ1 (fun s => (f s).isNone) (tIsN ta) := by
  obtain ⟨d1, pa, ra⟩ := ha
  exact ⟨d1, pe_cmp (pc_isN pa) rfl, fun s F H σ hh sm hc Q q => ra s F H σ hh sm hc _ fun v F1 H1 g1 hh1 r1 => q _ F1 H1 g1 hh1 (congrArg V.bl (opt_n r1))⟩
theorem DX.notN {f : S → Option τ.α} (ha : DX K X Δ a (tOpt τ) m1 c1 Δ1 f ta) {j : Nat} : DX K X Δ (.Compare a [.IsNot] [.Constant .none j p'] pos) (tBool K) m1 c1 Δ1 (fun s => (f s).isSome) (tNotN ta) := by
  obtain ⟨d1, pa, ra⟩ := ha
  exact ⟨d1, pe_cmp (pc_notN pa) rfl, fun s F H σ hh sm hc Q q => ra s F H σ hh sm hc _ fun v F1 H1 g1 hh1 r1 => q _ F1 H1 g1 hh1 (congrArg V.bl (opt_s r1))⟩
theorem DT.isN {f : S → Option τ.α} (ha : DX K X Δ a (tOpt τ) m1 c1 Δ1 f ta) {j : Nat} : DT K X Δ (.Compare a [.Is] [.Constant .none j p'] pos) m1 c1 Δ1 (fun s => (f s).isNone) (tB (tIsN ta)) := by
  obtain ⟨d1, pa, ra⟩ := ha
  exact ⟨d1, pt_cmp (pc_isN pa) rfl, fun s F H σ hh sm hc Q q => ra s F H σ hh sm hc _ fun v F1 H1 g1 hh1 r1 => ⟨_, congrArg V.bl (opt_n r1), q F1 H1 g1 hh1⟩⟩
theorem DT.notN {f : S → Option τ.α} (ha : DX K X Δ a (tOpt τ) m1 c1 Δ1 f ta) {j : Nat} : DT K X Δ (.Compare a [.IsNot] [.Constant .none j p'] pos) m1 c1 Δ1 (fun s => (f s).isSome) (tB (tNotN ta)) := by
  obtain ⟨d1, pa, ra⟩ := ha
  exact ⟨d1, pt_cmp (pc_notN pa) rfl, fun s F H σ hh sm hc Q q => ra s F H σ hh sm hc _ fun v F1 H1 g1 hh1 r1 => ⟨_, congrArg V.bl (opt_s r1), q F1 H1 g1 hh1⟩⟩

/-! ### truth -/
section
variable {f g : S → Bool} {rest : List Expr}
theorem DT.ofX (ha : DX K X Δ a (tBool K) m1 c1 Δ1 f ta) (he : ∀ whole, isTrue a X.env whole = (do let v ← whole; standAt a.pos; holding [v] (truthy v)) := by intro _; rfl) : DT K X Δ a m1 c1 Δ1 f (tB ta) := by
  obtain ⟨d1, pa, ra⟩ := ha
  exact ⟨d1, pt_val pa he, fun s F H σ hh sm hc Q q => ra s F H σ hh sm hc _ fun v F1 H1 g1 hh1 r1 => ⟨_, r1, q F1 H1 g1 hh1⟩⟩
theorem DT.not (ha : DT K X Δ a m1 c1 Δ1 f tx) : DT K X Δ (.UnaryOp .Not a pos) m1 c1 Δ1 (fun s => !f s) (tNot tx) := by
  obtain ⟨d1, pa, ra⟩ := ha
  exact ⟨d1, pt_not pa, fun s F H σ hh sm hc Q q => ra s F H σ hh sm hc _ fun F1 H1 g1 hh1 => q F1 H1 g1 hh1⟩
theorem DX.not (ha : DX K X Δ a (tBool K) m1 c1 Δ1 f ta) : DX K X Δ (.UnaryOp .Not a pos) (tBool K) m1 c1 Δ1 (fun s => !f s) (tNotV ta) := by
  obtain ⟨d1, pa, ra⟩ := ha
  exact ⟨d1, pe_not pa, fun s F H σ hh sm hc Q q => ra s F H σ hh sm hc _ fun v F1 H1 g1 hh1 r1 => ⟨_, r1, q _ F1 H1 g1 hh1 rfl⟩⟩
theorem DW.and1 (ha : DT K X Δ a m1 c1 Δ1 f tx) : DW K X Δ (.BoolOp .And [a] pos) m1 c1 Δ1 f tx := by
  obtain ⟨d1, pa, ra⟩ := ha
  exact ⟨d1, pw_and1 pa, ra⟩
theorem DW.or1 (ha : DT K X Δ a m1 c1 Δ1 f tx) : DW K X Δ (.BoolOp .Or [a] pos) m1 c1 Δ1 f tx := by
  obtain ⟨d1, pa, ra⟩ := ha
  exact ⟨d1, pw_or1 pa, ra⟩
theorem DX.and1 {o : BoolOp} (ha : DX K X Δ a (tBool K) m1 c1 Δ1 f ta) : DX K X Δ (.BoolOp o [a] pos) (tBool K) m1 c1 Δ1 f ta := by
  obtain ⟨d1, pa, ra⟩ := ha
  exact ⟨d1, pe_one pa, ra⟩
/-- conditions under a guard -/
def guardT (g : S → Bool) (cs : List (S → Prop)) : List (S → Prop) := cs.map fun c s => g s = true → c s
def guardF (g : S → Bool) (cs : List (S → Prop)) : List (S → Prop) := cs.map fun c s => g s = false → c s
theorem guardT_conj {g : S → Bool} {s : S} (h : g s = true) : ∀ {cs : List (S → Prop)}, Conj (guardT g cs) s → Conj cs s
  | [], _ => trivial
  | c :: cs, q => ⟨q.1 h, guardT_conj h (cs := cs) q.2⟩
theorem guardF_conj {g : S → Bool} {s : S} (h : g s = false) : ∀ {cs : List (S → Prop)}, Conj (guardF g cs) s → Conj cs s
  | [], _ => trivial
  | c :: cs, q => ⟨q.1 h, guardF_conj h (cs := cs) q.2⟩
/-- the second operand changes nothing -/
theorem DW.and (ha : DT K X Δ a m1 c1 Δ1 f tx) (hb : DW K X Δ1 (.BoolOp .And (b :: rest) pos) [] c2 Δ1 g ty) : DW K X Δ (.BoolOp .And (a :: b :: rest) pos) m1 (c1 ++ guardT f c2) Δ1 (fun s => f s && g s) (tAnd tx ty) := by
  obtain ⟨d1, pa, ra⟩ := ha
  obtain ⟨d2, pb, rb⟩ := hb
  refine ⟨d1, pw_and pa pb, fun s F H σ hh sm hc Q q => ?_⟩
  obtain ⟨h1, h2⟩ := conj_app hc
  refine ra s F H σ hh sm h1 _ fun F1 H1 g1 hh1 => ?_
  cases e : f s with
  | true =>
    show ty σ H1 Q
    refine rb s F1 H1 σ hh1 g1.fh (guardT_conj e h2) Q fun F2 H2 g2 hh2 => ?_
    rw [msAt_nil] at g2
    have := q F2 H2 (g1.trans g2.of0) hh2
    simp only [e, Bool.true_and] at this
    exact this
  | false =>
    have := q F1 H1 g1 hh1
    simp only [e, Bool.false_and] at this
    exact this
theorem DW.or (ha : DT K X Δ a m1 c1 Δ1 f tx) (hb : DW K X Δ1 (.BoolOp .Or (b :: rest) pos) [] c2 Δ1 g ty) : DW K X Δ (.BoolOp .Or (a :: b :: rest) pos) m1 (c1 ++ guardF f c2) Δ1 (fun s => f s || g s) (tOr tx ty) := by
  obtain ⟨d1, pa, ra⟩ := ha
  obtain ⟨d2, pb, rb⟩ := hb
  refine ⟨d1, pw_or pa pb, fun s F H σ hh sm hc Q q => ?_⟩
  obtain ⟨h1, h2⟩ := conj_app hc
  refine ra s F H σ hh sm h1 _ fun F1 H1 g1 hh1 => ?_
  cases e : f s with
  | false =>
    show ty σ H1 Q
    refine rb s F1 H1 σ hh1 g1.fh (guardF_conj e h2) Q fun F2 H2 g2 hh2 => ?_
    rw [msAt_nil] at g2
    have := q F2 H2 (g1.trans g2.of0) hh2
    simp only [e, Bool.false_or] at this
    exact this
  | true =>
    have := q F1 H1 g1 hh1
    simp only [e, Bool.true_or] at this
    exact this
theorem DX.and (ha : DX K X Δ a (tBool K) m1 c1 Δ1 f ta) (hb : DX K X Δ1 (.BoolOp .And (b :: rest) pos) (tBool K) [] c2 Δ1 g tb) : DX K X Δ (.BoolOp .And (a :: b :: rest) pos) (tBool K) m1 (c1 ++ guardT f c2) Δ1 (fun s => f s && g s) (tAndV ta tb) := by
  obtain ⟨d1, pa, ra⟩ := ha
  obtain ⟨d2, pb, rb⟩ := hb
  refine ⟨d1, pe_and pa pb, fun s F H σ hh sm hc Q q => ?_⟩
  obtain ⟨h1, h2⟩ := conj_app hc
  refine ra s F H σ hh sm h1 _ fun v F1 H1 g1 hh1 r1 => ⟨f s, r1, ?_⟩
  cases e : f s with
  | true =>
    show tb σ H1 Q
    refine rb s F1 H1 σ hh1 g1.fh (guardT_conj e h2) Q fun v2 F2 H2 g2 hh2 r2 => ?_
    rw [msAt_nil] at g2
    exact q v2 F2 H2 (g1.trans g2.of0) hh2 (by simp only [e, Bool.true_and]; exact r2)
  | false =>
    exact q _ F1 H1 g1 hh1 (by simp only [e, Bool.false_and])
theorem DX.or (ha : DX K X Δ a (tBool K) m1 c1 Δ1 f ta) (hb : DX K X Δ1 (.BoolOp .Or (b :: rest) pos) (tBool K) [] c2 Δ1 g tb) : DX K X Δ (.BoolOp .Or (a :: b :: rest) pos) (tBool K) m1 (c1 ++ guardF f c2) Δ1 (fun s => f s || g s) (tOrV ta tb) := by
  obtain ⟨d1, pa, ra⟩ := ha
  obtain ⟨d2, pb, rb⟩ := hb
  refine ⟨d1, pe_or pa pb, fun s F H σ hh sm hc Q q => ?_⟩
  obtain ⟨h1, h2⟩ := conj_app hc
  refine ra s F H σ hh sm h1 _ fun v F1 H1 g1 hh1 r1 => ⟨f s, r1, ?_⟩
  cases e : f s with
  | false =>
    show tb σ H1 Q
    refine rb s F1 H1 σ hh1 g1.fh (guardF_conj e h2) Q fun v2 F2 H2 g2 hh2 r2 => ?_
    rw [msAt_nil] at g2
    exact q v2 F2 H2 (g1.trans g2.of0) hh2 (by simp only [e, Bool.false_or]; exact r2)
  | true =>
    exact q _ F1 H1 g1 hh1 (by simp only [e, Bool.true_or])
/-- a if c else b, both without effects -/
theorem DX.ite {ga gb : S → τ.α} (hc : DT K X Δ c m1 c1 Δ1 f tz) (ha : DX K X Δ1 a τ [] c2 Δ1 ga ta) (hb : DX K X Δ1 b τ [] c3 Δ1 gb tb) : DX K X Δ (.IfExp c a b pos) τ m1 (c1 ++ (guardT f c2 ++ guardF f c3)) Δ1 (fun s => if f s = true then ga s else gb s) (tIf tz ta tb) := by
  obtain ⟨d1, pc, rc⟩ := hc
  obtain ⟨_, pa, ra⟩ := ha
  obtain ⟨_, pb, rb⟩ := hb
  refine ⟨d1, pe_ifExp pc pa pb, fun s F H σ hh sm hc Q q => ?_⟩
  obtain ⟨h1, h2⟩ := conj_app hc
  obtain ⟨h2, h3⟩ := conj_app h2
  refine rc s F H σ hh sm h1 _ fun F1 H1 g1 hh1 => ?_
  cases e : f s with
  | true =>
    show ta σ H1 Q
    refine ra s F1 H1 σ hh1 g1.fh (guardT_conj e h2) Q fun v2 F2 H2 g2 hh2 r2 => ?_
    rw [msAt_nil] at g2
    exact q v2 F2 H2 (g1.trans g2.of0) hh2 (by simp only [e, if_true]; exact r2)
  | false =>
    show tb σ H1 Q
    refine rb s F1 H1 σ hh1 g1.fh (guardF_conj e h3) Q fun v2 F2 H2 g2 hh2 r2 => ?_
    rw [msAt_nil] at g2
    exact q v2 F2 H2 (g1.trans g2.of0) hh2 (by simp only [e, if_false, Bool.false_eq_true]; exact r2)
end
end
end Dx

/-! Dx, part C: displays, items, arguments, what a def promises, calls. -/
namespace Dx
open PySem PySem.Spec PyProof.Rows L2
section
variable {K : PySem.W.Frag} {S : Type}
/-- items of one type; of several -/
def DL (K : PySem.W.Frag) (X : Cx) (Δ : Ctx K S) (es : List Expr) (τ : Ty K) (ms : List Nat) (cs : List (S → Prop)) (Δ1 : Ctx K S) (f : S → List τ.α) (t : TA) : Prop :=
  Diff ms Δ Δ1 ∧ PA X es t ∧ ∀ s F H σ, Holds Δ s F H σ → Same F H → Conj cs s → ∀ Q : List V → Hp → Prop, (∀ vs F' H', Gr (MsAt ms σ) F H F' H' → Holds Δ1 s F' H' σ → Paired (τ.rep F') vs (f s) → Q vs H') → t σ H Q
def DTs (K : PySem.W.Frag) (X : Cx) (Δ : Ctx K S) (es : List Expr) (ts : List (Ty K)) (ms : List Nat) (cs : List (S → Prop)) (Δ1 : Ctx K S) (f : S → HL ts) (t : TA) : Prop :=
  Diff ms Δ Δ1 ∧ PA X es t ∧ ∀ s F H σ, Holds Δ s F H σ → Same F H → Conj cs s → ∀ Q : List V → Hp → Prop, (∀ vs F' H', Gr (MsAt ms σ) F H F' H' → Holds Δ1 s F' H' σ → RepAll F' ts vs (f s) → Q vs H') → t σ H Q
/-- an argument: data that stays, or an own object that is lent (the slot j) -/
inductive AK (K : PySem.W.Frag) (S : Type) : Type 1
  | fz (τ : Ty K) (h : S → τ.α)
  | mu (j : Nat)
def AkRep (F : Hp) (σ : L2.St) (s : S) : AK K S → V → Prop
  | .fz τ h, v => τ.rep F v (h s)
  | .mu j, v => σ[j]? = some (some v)
def AkAll (F : Hp) (σ : L2.St) (s : S) : List (AK K S) → List V → Prop
  | [], vs => vs = []
  | a :: as, vs => ∃ v r, vs = v :: r ∧ AkRep F σ s a v ∧ AkAll F σ s as r
def DA (K : PySem.W.Frag) (X : Cx) (Δ : Ctx K S) (es : List Expr) (ms : List Nat) (cs : List (S → Prop)) (Δ1 : Ctx K S) (as : List (AK K S)) (t : TA) : Prop :=
  Diff ms Δ Δ1 ∧ PA X es t ∧ ∀ s F H σ, Holds Δ s F H σ → Same F H → Conj cs s → ∀ Q : List V → Hp → Prop, (∀ vs F' H', Gr (MsAt ms σ) F H F' H' → Holds Δ1 s F' H' σ → AkAll F' σ s as vs → Q vs H') → t σ H Q
end
section
variable {ta tb : TE} {tx ty tz : TT} {tl : TA} {K : PySem.W.Frag} {X : Cx} {S : Type} {Δ Δ1 Δ2 Δ3 : Ctx K S} {e a b c : Expr} {es : List Expr} {pos p' : Pos} {τ σt τa τb τ1 τ2 : Ty K} {ts : List (Ty K)} {ω : OTy K} {m1 m2 m3 ms : List Nat} {c1 c2 c3 cs : List (S → Prop)}
theorem DL.nil : DL K X Δ [] τ [] [] Δ (fun _ => []) tNil := ⟨Diff.refl, pa_nil, fun s F H σ hh sm _ Q q => q [] F H (Gr.refl sm) hh .nil⟩
theorem DL.cons {f : S → τ.α} {g : S → List τ.α} (ha : DX K X Δ e τ m1 c1 Δ1 f ta) (hb : DL K X Δ1 es τ m2 c2 Δ2 g tl) (hs : starEach (e :: es) X.env = (false, eval e X.env) :: starEach es X.env := by rfl) : DL K X Δ (e :: es) τ (m1 ++ m2) (c1 ++ c2) Δ2 (fun s => f s :: g s) (tCons ta tl) := by
  obtain ⟨d1, pa, ra⟩ := ha
  obtain ⟨d2, pb, rb⟩ := hb
  refine ⟨d1.trans d2, pa_cons pa pb hs, fun s F H σ hh sm hc Q q => ?_⟩
  obtain ⟨h1, h2⟩ := conj_app hc
  refine ra s F H σ hh sm h1 _ fun v F1 H1 g1 hh1 r1 => ?_
  refine rb s F1 H1 σ hh1 g1.fh h2 _ fun vs F2 H2 g2 hh2 r2 => ?_
  exact q _ F2 H2 ((g1.mono (msAt_l (m2 := m2))).trans (g2.mono (msAt_r (m1 := m1)))) hh2 (.cons (τ.mono g2.ff r1) r2)
theorem DTs.nil : DTs K X Δ [] [] [] [] Δ (fun _ => ()) tNil := ⟨Diff.refl, pa_nil, fun s F H σ hh sm _ Q q => q [] F H (Gr.refl sm) hh rfl⟩
theorem DTs.one {f : S → τ.α} (ha : DX K X Δ e τ m1 c1 Δ1 f ta) (hs : starEach [e] X.env = (false, eval e X.env) :: starEach [] X.env := by rfl) : DTs K X Δ [e] [τ] m1 c1 Δ1 f (tCons ta tNil) := by
  obtain ⟨d1, pa, ra⟩ := ha
  refine ⟨d1, pa_cons pa pa_nil hs, fun s F H σ hh sm hc Q q => ?_⟩
  exact ra s F H σ hh sm hc _ fun v F1 H1 g1 hh1 r1 => q _ F1 H1 g1 hh1 ⟨v, rfl, r1⟩
theorem DTs.cons {f : S → τ.α} {g : S → HL (σt :: ts)} (ha : DX K X Δ e τ m1 c1 Δ1 f ta) (hb : DTs K X Δ1 es (σt :: ts) m2 c2 Δ2 g tl) (hs : starEach (e :: es) X.env = (false, eval e X.env) :: starEach es X.env := by rfl) : DTs K X Δ (e :: es) (τ :: σt :: ts) (m1 ++ m2) (c1 ++ c2) Δ2 (fun s => (f s, g s)) (tCons ta tl) := by
  obtain ⟨d1, pa, ra⟩ := ha
  obtain ⟨d2, pb, rb⟩ := hb
  refine ⟨d1.trans d2, pa_cons pa pb hs, fun s F H σ hh sm hc Q q => ?_⟩
  obtain ⟨h1, h2⟩ := conj_app hc
  refine ra s F H σ hh sm h1 _ fun v F1 H1 g1 hh1 r1 => ?_
  refine rb s F1 H1 σ hh1 g1.fh h2 _ fun vs F2 H2 g2 hh2 r2 => ?_
  exact q _ F2 H2 ((g1.mono (msAt_l (m2 := m2))).trans (g2.mono (msAt_r (m1 := m1)))) hh2 ⟨v, vs, rfl, τ.mono g2.ff r1, r2⟩
theorem DA.nil : DA K X Δ [] [] [] Δ [] tNil := ⟨Diff.refl, pa_nil, fun s F H σ hh sm _ Q q => q [] F H (Gr.refl sm) hh rfl⟩
theorem DA.cons {f : S → τ.α} {as : List (AK K S)} (ha : DX K X Δ e τ m1 c1 Δ1 f ta) (hb : DA K X Δ1 es m2 c2 Δ2 as tl) (hs : starEach (e :: es) X.env = (false, eval e X.env) :: starEach es X.env := by rfl) : DA K X Δ (e :: es) (m1 ++ m2) (c1 ++ c2) Δ2 (.fz τ f :: as) (tCons ta tl) := by
  obtain ⟨d1, pa, ra⟩ := ha
  obtain ⟨d2, pb, rb⟩ := hb
  refine ⟨d1.trans d2, pa_cons pa pb hs, fun s F H σ hh sm hc Q q => ?_⟩
  obtain ⟨h1, h2⟩ := conj_app hc
  refine ra s F H σ hh sm h1 _ fun v F1 H1 g1 hh1 r1 => ?_
  refine rb s F1 H1 σ hh1 g1.fh h2 _ fun vs F2 H2 g2 hh2 r2 => ?_
  exact q _ F2 H2 ((g1.mono (msAt_l (m2 := m2))).trans (g2.mono (msAt_r (m1 := m1)))) hh2 ⟨v, vs, rfl, τ.mono g2.ff r1, r2⟩
/-- an own object is lent -/
theorem DA.mu {x : Str} {j : Nat} {f : S → ω.τ.α} {as : List (AK K S)} (h : Δ[j]? = some (.ow ω f)) (hb : DA K X Δ es m2 c2 Δ2 as tl) (hN : X.N[j]? = some x := by rfl) (hv : Vis X.env.scope x := by first | exact Or.inl rfl | exact Or.inr (Or.inl rfl) | exact Or.inr (Or.inr rfl)) (hd : (x == ("__debug__" : Str)) = false := by decide)
    (hcd : (x == ("__classdict__" : Str)) = false := by decide) (hs : starEach (.Name x pos :: es) X.env = (false, eval (.Name x pos) X.env) :: starEach es X.env := by rfl) : DA K X Δ (.Name x pos :: es) m2 c2 Δ2 (.mu j :: as) (tCons (tVar j) tl) := by
  obtain ⟨d2, pb, rb⟩ := hb
  refine ⟨d2, pa_cons (pe_var hN hv hd hcd) pb hs, fun s F H σ hh sm hc Q q => ?_⟩
  have hi : j < σ.length := by rw [hh.len]; exact (List.getElem?_eq_some_iff.mp h).1
  obtain ⟨o, ho⟩ : ∃ o, σ[j]? = some o := ⟨_, List.getElem?_eq_getElem hi⟩
  obtain ⟨p, u, e, _⟩ := hh.at_ j _ o h ho
  refine ⟨.ref p, by rw [ho, e], rb s F H σ hh sm hc _ fun vs F2 H2 g2 hh2 r2 => ?_⟩
  exact q _ F2 H2 g2 hh2 ⟨.ref p, vs, rfl, (show σ[j]? = some (some (.ref p)) by rw [ho, e]), r2⟩

/-! #### displays -/
theorem DX.tup {x1 : Nat} {f : S → HL ts} (h : DTs K X Δ es ts ms cs Δ1 f tl) (hl : ts.length ≤ sizeLine := by decide) : DX K X Δ (.Tuple es x1 pos) (tTp ts) ms cs Δ1 f (L2.tTup tl) := by
  obtain ⟨d1, p, r⟩ := h
  refine ⟨d1, pe_tup p, fun s F H σ hh sm hc Q q => r s F H σ hh sm hc _ fun vs F1 H1 g1 hh1 r1 => ⟨by rw [r1.length]; exact hl, fun a n => ?_⟩⟩
  have g2 : Gr No F1 H1 (upd F1 a (.tup vs)) (upd H1 a (.tup vs)) := Gr.new g1.fh n
  exact q _ _ _ (g1.trans g2.of0) (hh1.grow g2) ⟨a, vs, rfl, upd_same, r1.mono g2.ff⟩
theorem DO.lst {f : S → List τ.α} (h : DL K X Δ es τ ms cs Δ1 f tl) (hl : ∀ s, (f s).length ≤ sizeLine := by intro _; decide) : DO K X Δ (.List es pos) (oList τ) ms cs Δ1 f (tLst tl) := by
  obtain ⟨d1, p, r⟩ := h
  refine ⟨d1, pe_lst p, fun s F H σ hh sm hc Q q => r s F H σ hh sm hc _ fun vs F1 H1 g1 hh1 r1 => ⟨by rw [r1.length]; exact hl s, fun a n => ?_⟩⟩
  obtain ⟨g2, fn, e3⟩ := own_of_new (ω := oList τ) (x := f s) g1.fh n ⟨vs, rfl, r1, hl s⟩
  exact q a _ F1 _ (g1.trans g2.of0) (hh1.grow g2) (g1.dom a n) fn e3 ⟨vs, rfl, r1, hl s⟩

/-! #### items -/
def ixI {α : Type} (d : α) (xs : List α) (i : Int) : α := if 0 ≤ i then xs.getD i.toNat d else xs.getD (i + xs.length).toNat d
def IxOk {α : Type} (xs : List α) (i : Int) : Prop := -(xs.length : Int) ≤ i ∧ i < xs.length
theorem paired_at {α β : Type} {R : α → β → Prop} : ∀ {xs : List α} {ys : List β} {i : Nat} {y : β}, Paired R xs ys → ys[i]? = some y → ∃ x, xs[i]? = some x ∧ R x y
  | _, _, _, _, .nil, h => by simp at h
  | _, _, 0, _, .cons r _, h => by simp at h; subst h; exact ⟨_, rfl, r⟩
  | _, _, i + 1, y, .cons _ t, h => by
    obtain ⟨x, e, r⟩ := paired_at (i := i) t (by simpa using h)
    exact ⟨x, by simpa using e, r⟩
theorem ix_at {α : Type} {d : α} {xs : List α} {i : Int} (h : IxOk xs i) : ∃ j, ixN xs.length i = some j ∧ xs[j]? = some (ixI d xs i) := by
  obtain ⟨h1, h2⟩ := h
  unfold ixN ixI
  by_cases h0 : 0 ≤ i
  · rw [if_pos h0, if_pos h2, if_pos h0]
    refine ⟨i.toNat, rfl, ?_⟩
    have hl : i.toNat < xs.length := by omega
    rw [List.getD_eq_getElem?_getD, List.getElem?_eq_getElem hl]; rfl
  · rw [if_neg h0, if_neg h0, if_pos h1]
    refine ⟨(i + xs.length).toNat, rfl, ?_⟩
    have hl : (i + xs.length).toNat < xs.length := by omega
    rw [List.getD_eq_getElem?_getD, List.getElem?_eq_getElem hl]; rfl
theorem r2_ixL {L : Ty K} {to : L.α → List τ.α} (hl : LL L τ to) {d : τ.α} : R2ok K (rIxL K) L (tInt K) τ [fun x i => IxOk (to x) i] (fun x i => ixI d (to x) i) := fun x y v u F H sm r1 r2 hc Q q => by
  obtain ⟨p, vs, e, sq, pr, _⟩ := hl r1
  subst e r2
  obtain ⟨j, e1, e2⟩ := ix_at (d := d) hc.1
  obtain ⟨z, e3, rz⟩ := paired_at pr e2
  refine ⟨p, vs, y, z, rfl, rfl, sm.seq sq, ?_, q z F H (Gr.refl sm) rz⟩
  unfold atI
  rw [pr.length, e1]
  exact e3
/-- xs[i] -/
theorem DX.ix {L : Ty K} {to : L.α → List τ.α} (hl : LL L τ to) (d : τ.α) {f : S → L.α} {g : S → Int} (ha : DX K X Δ a L m1 c1 Δ1 f ta) (hb : DX K X Δ1 b (tInt K) m2 c2 Δ2 g tb) (hp : PlainIx b := by exact fun _ _ => rfl) (hK : X.K = K := by rfl) : DX K X Δ (.Subscript a b pos) τ (m1 ++ m2) (c1 ++ (c2 ++ [fun s => IxOk (to (f s)) (g s)])) Δ2 (fun s => ixI d (to (f s)) (g s)) (tOp (rIxL K) ta tb) := by
  subst hK
  exact DX.bin (r2_ixL hl) ha hb fun p q => pe_ix ix_list p q hp
/-- the k-th item of a tuple -/
inductive Proj {K : PySem.W.Frag} : (ts : List (Ty K)) → Nat → (τ : Ty K) → (HL ts → τ.α) → Prop
  | last {τ : Ty K} : Proj [τ] 0 τ (fun x => x)
  | zero {τ σ : Ty K} {ts : List (Ty K)} : Proj (τ :: σ :: ts) 0 τ (fun x => x.1)
  | succ {τ σ ρ : Ty K} {ts : List (Ty K)} {k : Nat} {g : HL (σ :: ts) → ρ.α} : Proj (σ :: ts) k ρ g → Proj (τ :: σ :: ts) (k + 1) ρ (fun x => g x.2)
theorem Proj.at {F : Hp} {k : Nat} {g : HL ts → τ.α} (h : Proj ts k τ g) : ∀ {vs : List V} {x : HL ts}, RepAll F ts vs x → ∃ v, vs[k]? = some v ∧ τ.rep F v (g x) := by
  induction h with
  | last => rintro vs x ⟨v, e, r⟩; exact ⟨v, by rw [e]; rfl, r⟩
  | zero => rintro vs x ⟨v, w, e, r, _⟩; exact ⟨v, by rw [e]; rfl, r⟩
  | succ _ ih =>
    rintro vs x ⟨v, w, e, _, r⟩
    obtain ⟨z, e2, r2⟩ := ih r
    exact ⟨z, by rw [e]; exact e2, r2⟩
/-- t[k], k written; t[-k] -/
theorem DX.tix {k j : Nat} {g : HL ts → τ.α} {f : S → HL ts} (ha : DX K X Δ a (tTp ts) m1 c1 Δ1 f ta) (h : Proj ts k τ g) (hp : PlainIx (.Constant (.int (k : Int)) j p') := by exact fun _ _ => rfl) (hK : X.K = K := by rfl) : DX K X Δ (.Subscript a (.Constant (.int (k : Int)) j p') pos) τ m1 c1 Δ1 (fun s => g (f s)) (tOp (rIxT K) ta (tC (.int (k : Int)))) := by
  subst hK
  obtain ⟨d1, pa, ra⟩ := ha
  refine ⟨d1, pe_ix ix_tup pa pe_int hp, fun s F H σ hh sm hc Q q => ra s F H σ hh sm hc _ fun v F1 H1 g1 hh1 ⟨p, vs, e, q1, r⟩ => ?_⟩
  obtain ⟨z, e2, rz⟩ := h.at r
  exact ⟨p, vs, k, z, e, rfl, .inl (.inl (g1.fh _ _ q1)), atI_nat e2, q z F1 H1 g1 hh1 rz⟩
/-! ### what a def promises -/
structure RoomG (k : Nat) (A : Around) : Prop where
  rm : Room k A
  gd : A.guards = some []
/-- a def keeps its promise where nothing is being shown -/
structure FnG (P : Program) (w : World) (K : PySem.W.Frag) (mg : Str → Option Value) (base : Heap) (CX : CXT) (k : Nat) (f : Addr) (fd : FuncData) (ps : List Str) (sp : Sp) : Prop where
  len : ∀ vs H Q E, sp vs H Q E → vs.length = ps.length
  run : ∀ (A : Around) (outer : List Env) (s : Shared) (H : Hp) (args : Args) (us : List Value) (vs : List V) (Q : VK) (E : XK), RoomG k A → Env0 P w K mg base A outer s H → BindsTo s fd args (ps.zip us) → Vals vs us → sp vs H Q E →
    codeAny (model P w) A (.call (.ref f) args) (CR CX outer P w H s Q E) s
theorem RoomG.mono {j k : Nat} {A : Around} (r : RoomG k A) (h : j ≤ k) : RoomG j A := ⟨r.rm.mono h, r.gd⟩
theorem RoomG.deeper {k : Nat} {A : Around} (r : RoomG (k + 1) A) (env : Env) : RoomG k (A.deeper env) := ⟨r.rm.deeper env, r.gd⟩
theorem FnG.mono {P : Program} {w : World} {K : PySem.W.Frag} {mg : Str → Option Value} {base : Heap} {CX : CXT} {j k : Nat} {f : Addr} {fd : FuncData} {ps : List Str} {sp : Sp} (F : FnG P w K mg base CX j f fd ps sp) (h : j ≤ k) : FnG P w K mg base CX k f fd ps sp :=
  ⟨F.len, fun A outer s H args us vs Q E hr => F.run A outer s H args us vs Q E (hr.mono h)⟩
/-- a def by its body -/
theorem fn_g {CX : CXT} {P : Program} {w : World} {mg : Str → Option Value} {base : Heap} {x qual : Str} {st : Stmt} {f : Addr} {fd : FuncData} {N ps : List Str} {k : Nat} {sp : Sp} (F : Fun K x qual st f fd) (Sc : FnScope N ps (defScope st)) (len : ∀ vs H Q E, sp vs H Q E → vs.length = ps.length)
    (hbody : ∀ (cdv : Value) (A : Around) (outer : List Env) (s : Shared) (H : Hp) (vs : List V) (Q : VK) (E : XK), RoomG k (A.deeper (envOfC qual (defScope st) s.heap.objs.size f cdv)) → sp vs H Q E →
      ∃ t, PSs (cxOf CX P w K mg base N qual (defScope st) f cdv A outer s H E) (defBody st) t ∧ t { nx := fun _ H' => Q .non H', rt := Q } (start N vs) H) : FnG P w K mg base CX (k + 1) f fd ps sp := by
  obtain ⟨oc, od, kV, doc, pm, an, cdv, ct, osl, rfl, lk, hcd⟩ := F.ex
  refine ⟨len, fun A outer s H args us vs Q E hr e0 hb rv hsp => ?_⟩
  have KX : K.In s.heap := e0.mod.kin.keeps fun b o e => (e0.bs b o e).1
  refine codeAny_call_function hr.rm.depth (KX _ _ lk) rfl Sc.co Sc.gen rfl (PySem.W.codeRec_of KX hcd) (hb _ _ _ _ ?_)
  refine wpAny_newFunctionEnv_cells Sc.kind (fun z hz => ?_) fun env he s1 y => ?_
  · obtain ⟨n, v⟩ := z
    rcases Sc.par n (List.of_mem_zip hz).1 with q | q
    · exact .inl q
    · exact .inr ⟨q, PySem.W.cellsFrom_some _ _ _ (.inl q)⟩
  subst he
  refine ⟨(e0.mod.nolimit.keeps fun b o e => (e0.bs b o e).1 : s.heap.NoLimit).keeps y.toInCall.keep, codeAny_func ?_⟩
  obtain ⟨t, ht, hq⟩ := hbody cdv A outer s H vs Q E (hr.deeper _) hsp
  have I := inv_start (CX := CX) (f := f) (E := E) Sc hr.rm.hd e0 (len _ _ _ _ hsp) rv y
  refine wpAny_mono (ht.run [] s1 (start N vs) H _ I hq) (fun fl s' hs => ?_) fun _ _ z => z
  cases fl with
  | ret u => obtain ⟨v, σ', H', J, r2, q⟩ := hs; exact ⟨v, H', J.os, J.bare, J.base, J.hok, r2, q⟩
  | next => obtain ⟨σ', H', J, q⟩ := hs; exact ⟨V.non, H', J.os, J.bare, J.base, J.hok, rfl, q⟩
  | brk => obtain ⟨_, _, _, z⟩ := hs; exact False.elim z
  | cont => obtain ⟨_, _, _, z⟩ := hs; exact False.elim z
/-- the call of a def by its name -/
theorem pe_callg {CX : CXT} {k : Nat} {f : Addr} {fd : FuncData} {ps : List Str} {sp : Sp} {E : XK} {x : Str} {p : Pos} {t : TA} (G : FnG X.prog X.w X.K X.mg X.base CX k f fd ps sp) (hr : RoomG k X.A) (hg : Gl X x) (hm : X.mg x = some (.ref f)) (hk : PySem.W.keepIn X.K (.ref f) = true) (hb : Binds X.K fd ps []) (hx : Passes CX X E)
    (ha : PA X (e :: es) t) (hdb : (x == ("__debug__" : Str)) = false := by decide) (he : starEach (e :: es) X.env = (false, eval e X.env) :: starEach es X.env := by rfl) (hpl : (backTo pos (starEach es X.env)).any (·.1) = false := by rfl) :
    PE X (.Call (.Name x p) (e :: es) [] pos) (tCall sp [] E t) := by
  refine ⟨fun pins s σ H Q I h => wpAny_Call_Name_kw (ld_glob I hg hm ?_ hdb)⟩
  refine PySem.W.callWith_K (h₀ := X.base) I.ok.mod.kin hk (thn (ha.run pos pins s σ H _ I h) fun us s1 ⟨vs, H1, I1, r, q⟩ => ⟨I1.kIn, ?_⟩) he hpl
  have q' : sp vs H1 Q E := by rw [← List.append_nil vs]; exact q
  have hl : (us ++ ([] : List Value)).length = ps.length := by rw [List.append_nil, ← r.length]; exact G.len _ _ _ _ q'
  have hbd := hb s1 us I1.kIn hl
  rw [List.append_nil] at hbd
  refine wpAny_call (codeAny_mono (G.run X.A X.stack s1 H1 ⟨us, []⟩ us vs Q E hr I1.env0 hbd r q') fun res s' hq => ?_)
  cases res with
  | error e => exact hx pins σ H1 s1 e s' I1 hq
  | ok fl => cases fl with
    | ret u => exact I1.after hq
    | next => exact hq.elim
    | brk => exact hq.elim
    | cont => exact hq.elim
end
end Dx

/-! Dx, part D: statements, promises over data, loops. -/
namespace Dx
open PySem PySem.Spec PyProof.Rows L2

/-! ### what the statements of a block do -/
section
variable {K : PySem.W.Frag} {S T : Type}
def Own (Δ : Ctx K S) (σ : L2.St) (a : Addr) : Prop := ∃ (i : Nat) (ω : OTy K) (f : S → ω.τ.α), Δ[i]? = some (.ow ω f) ∧ σ[i]? = some (some (.ref a))
/-- behind a block that gave something back -/
structure GrR (Δ : Ctx K S) (σ : L2.St) (F H F1 H1 : Hp) : Prop where
  ff : Same F F1
  fh : Same F1 H1
  fresh : ∀ a o, F1 a = some o → F a = some o ∨ H a = none ∨ Own Δ σ a
  keep : ∀ a o, H a = some o → ¬ Own Δ σ a → H1 a = some o
  dom : ∀ a, H1 a = none → H a = none
/-- behind a block that goes on; mus: the slots that stay -/
structure GrS {S T : Type} (mus : List Nat) (Δ : Ctx K S) (σ : L2.St) (Δ1 : Ctx K T) (σ1 : L2.St) (F H F1 H1 : Hp) : Prop extends GrR Δ σ F H F1 H1 where
  own : ∀ a, Own Δ1 σ1 a → Own Δ σ a ∨ H a = none
  mu : ∀ k ∈ mus, σ1[k]? = σ[k]?
section
variable {U : Type} {mus : List Nat} {Δ : Ctx K S} {Δ1 : Ctx K T} {Δ2 : Ctx K U} {σ σ1 σ2 : L2.St} {F H F1 H1 F2 H2 : Hp}
theorem GrS.reflC (h : Same F H) (hm : ∀ a, Own Δ1 σ a → Own Δ σ a) : GrS mus Δ σ Δ1 σ F H F H := ⟨⟨Same.refl F, h, fun _ _ h => .inl h, fun _ _ h _ => h, fun _ h => h⟩, fun a h => .inl (hm a h), fun _ _ => rfl⟩
theorem GrS.refl (h : Same F H) : GrS mus Δ σ Δ σ F H F H := .reflC h fun _ h => h
theorem GrR.after (a : GrS mus Δ σ Δ1 σ1 F H F1 H1) (b : GrR Δ1 σ1 F1 H1 F2 H2) : GrR Δ σ F H F2 H2 where
  ff := a.ff.trans b.ff
  fh := b.fh
  fresh := fun x o h => by
    rcases b.fresh x o h with z | z | z
    · exact a.fresh x o z
    · exact .inr (.inl (a.dom x z))
    · rcases a.own x z with y | y
      · exact .inr (.inr y)
      · exact .inr (.inl y)
  keep := fun x o h n => b.keep x o (a.keep x o h n) fun z => by
    rcases a.own x z with y | y
    · exact n y
    · rw [h] at y; cases y
  dom := fun x h => a.dom x (b.dom x h)
theorem GrS.trans (a : GrS mus Δ σ Δ1 σ1 F H F1 H1) (b : GrS mus Δ1 σ1 Δ2 σ2 F1 H1 F2 H2) : GrS mus Δ σ Δ2 σ2 F H F2 H2 :=
  { GrR.after a b.toGrR with
    own := fun x h => by
      rcases b.own x h with z | z
      · exact a.own x z
      · exact .inr (a.dom x z)
    mu := fun k h => (b.mu k h).trans (a.mu k h) }
/-- an expression of a block, that changes what the slots ms hold -/
theorem GrS.ofGr {ms : List Nat} {Δ1 : Ctx K S} {s : S} (d : Diff ms Δ Δ1) (hh : Holds Δ s F H σ) (hm : ∀ i ∈ ms, ∃ (ω : OTy K) (f : S → ω.τ.α), Δ[i]? = some (.ow ω f)) (g : Gr (MsAt ms σ) F H F1 H1) : GrS mus Δ σ Δ1 σ F H F1 H1 where
  ff := g.ff
  fh := g.fh
  fresh := fun a o h => (g.fresh a o h).elim .inl fun z => .inr (.inl z)
  keep := fun a o h n => g.keep a o h fun ⟨i, hi, e⟩ => n (by obtain ⟨ω, f, h⟩ := hm i hi; exact ⟨i, ω, f, h, e⟩)
  dom := g.dom
  own := fun a ⟨i, ω, f, h, e⟩ => .inl (by obtain ⟨ω', f', h'⟩ := d.own i ω f h; exact ⟨i, ω', f', h', e⟩)
  mu := fun _ _ => rfl
end
/-- what a def hands back: data that stays, or a new object of one's own -/
inductive RK (K : PySem.W.Frag) : Type 1
  | fz (τ : Ty K)
  | ow (ω : OTy K)
def RK.α : RK K → Type
  | .fz τ => τ.α
  | .ow ω => ω.τ.α
def RetOk (Fr : Addr → Prop) (F1 H1 : Hp) : (ρ : RK K) → V → ρ.α → Prop
  | .fz τ, v, x => τ.rep F1 v x
  | .ow ω, v, x => ∃ p u, v = .ref p ∧ Fr p ∧ F1 p = none ∧ H1 p = some u ∧ ω.own F1 u x
theorem RetOk.dom {Fr Fr' : Addr → Prop} {F1 H1 : Hp} (h : ∀ a, Fr a → Fr' a) : ∀ {ρ : RK K} {v : V} {x : ρ.α}, RetOk Fr F1 H1 ρ v x → RetOk Fr' F1 H1 ρ v x
  | .fz _, _, _, r => r
  | .ow _, _, _, ⟨p, u, e, n, r⟩ => ⟨p, u, e, h p n, r⟩
/-- new, or an own one that is no parameter -/
def Fresh (mus : List Nat) (Δ : Ctx K S) (σ : L2.St) (H : Hp) (p : Addr) : Prop := (H p = none ∨ Own Δ σ p) ∧ ∀ j ∈ mus, σ[j]? ≠ some (some (.ref p))
theorem Fresh.back {mus : List Nat} {Δ : Ctx K S} {Δ1 : Ctx K T} {σ σ1 : L2.St} {F H F1 H1 : Hp} (g : GrS mus Δ σ Δ1 σ1 F H F1 H1) {p : Addr} (h : Fresh mus Δ1 σ1 H1 p) : Fresh mus Δ σ H p := by
  obtain ⟨h1, h2⟩ := h
  refine ⟨?_, fun j m => by rw [← g.mu j m]; exact h2 j m⟩
  rcases h1 with z | z
  · exact .inl (g.dom p z)
  · exact (g.own p z).symm
/-- parameters: data that stays; an own object of the caller's that is changed -/
inductive PK (K : PySem.W.Frag) : Type 1
  | fz (τ : Ty K)
  | mu (ω : OTy K)
def PK.C : PK K → Type
  | .fz τ => τ.α
  | .mu ω => ω.τ.α
def HP : List (PK K) → Type
  | [] => Unit
  | p :: ps => p.C × HP ps
def HM : List (PK K) → Type
  | [] => Unit
  | .fz _ :: ps => HM ps
  | .mu ω :: ps => ω.τ.α × HM ps
def ctx0 : (ps : List (PK K)) → Ctx K (HP ps)
  | [] => []
  | .fz τ :: ps => .fz τ (fun s => s.1) :: (ctx0 ps).map (Slot.comap fun s => s.2)
  | .mu ω :: ps => .ow ω (fun s => s.1) :: (ctx0 ps).map (Slot.comap fun s => s.2)
def MuOk (F1 H1 : Hp) (σ : L2.St) : Nat → (ps : List (PK K)) → HM ps → Prop
  | _, [], _ => True
  | k, .fz _ :: ps, x => MuOk F1 H1 σ (k + 1) ps x
  | k, .mu ω :: ps, x => (∃ p u, σ[k]? = some (some (.ref p)) ∧ F1 p = none ∧ H1 p = some u ∧ ω.own F1 u x.1) ∧ MuOk F1 H1 σ (k + 1) ps x.2
def musOf : Nat → List (PK K) → List Nat
  | _, [] => []
  | k, .fz _ :: ps => musOf (k + 1) ps
  | k, .mu _ :: ps => k :: musOf (k + 1) ps
theorem MuOk.congr {F1 H1 : Hp} {σ σ' : L2.St} : ∀ {ps : List (PK K)} {k : Nat} {x : HM ps}, (∀ j ∈ musOf k ps, σ'[j]? = σ[j]?) → MuOk F1 H1 σ' k ps x → MuOk F1 H1 σ k ps x
  | [], _, _, _, _ => trivial
  | .fz _ :: ps, k, x, h, r => MuOk.congr (ps := ps) h r
  | .mu ω :: ps, k, x, h, ⟨⟨p, u, e, r⟩, t⟩ => ⟨⟨p, u, by rw [← h k (List.mem_cons_self ..)]; exact e, r⟩, MuOk.congr (ps := ps) (fun j m => h j (List.mem_cons_of_mem _ m)) t⟩
/-- the values of the parameters that are changed, at a return -/
inductive MuF (Δ : Ctx K S) : Nat → (ps : List (PK K)) → (S → HM ps) → Prop
  | nil {k : Nat} : MuF Δ k [] (fun _ => ())
  | fz {k : Nat} {τ : Ty K} {ps : List (PK K)} {g : S → HM ps} : MuF Δ (k + 1) ps g → MuF Δ k (.fz τ :: ps) g
  | mu {k : Nat} {ω : OTy K} {ps : List (PK K)} {h : S → ω.τ.α} {g : S → HM ps} : Δ[k]? = some (.ow ω h) → MuF Δ (k + 1) ps g → MuF Δ k (.mu ω :: ps) (fun s => (h s, g s))
theorem MuF.ok {Δ : Ctx K S} {s : S} {F H : Hp} {σ : L2.St} (hh : Holds Δ s F H σ) {k : Nat} {ps : List (PK K)} {g : S → HM ps} (h : MuF Δ k ps g) : MuOk F H σ k ps (g s) := by
  induction h with
  | nil => trivial
  | fz _ ih => exact ih
  | @mu k ω ps h g e _ ih =>
    refine ⟨?_, ih⟩
    have hi : k < σ.length := by rw [hh.len]; exact (List.getElem?_eq_some_iff.mp e).1
    obtain ⟨o, ho⟩ : ∃ o, σ[k]? = some o := ⟨_, List.getElem?_eq_getElem hi⟩
    obtain ⟨p, u, e2, n, hp, w⟩ := hh.at_ k _ o e ho
    exact ⟨p, u, by rw [ho, e2], n, hp, w⟩

variable (K) in
/-- the form of a def's end: parameters, what is handed back, and how they lie in its Lean value -/
structure Fm (R : Type) where
  ps : List (PK K)
  ret : RK K
  res : R → ret.α
  mv : R → HM ps
/-- a statement; a block; a block that returns; one that may -/
def DS (K : PySem.W.Frag) (X : Cx) (mus : List Nat) (Δ : Ctx K S) (st : Stmt) (cs : List (S → Prop)) (Δ1 : Ctx K S) : Prop :=
  ∃ t : TS, PS X st t ∧ ∀ s F H σ, Holds Δ s F H σ → Same F H → Conj cs s → ∀ D : Ends, (∀ σ1 F1 H1, GrS mus Δ σ Δ1 σ1 F H F1 H1 → Holds Δ1 s F1 H1 σ1 → D.nx σ1 H1) → t D σ H
def DN (K : PySem.W.Frag) (X : Cx) (mus : List Nat) (Δ : Ctx K S) (sts : List Stmt) (cs : List (S → Prop)) (Δ1 : Ctx K S) : Prop :=
  ∃ t : TS, PSs X sts t ∧ ∀ s F H σ, Holds Δ s F H σ → Same F H → Conj cs s → ∀ D : Ends, (∀ σ1 F1 H1, GrS mus Δ σ Δ1 σ1 F H F1 H1 → Holds Δ1 s F1 H1 σ1 → D.nx σ1 H1) → t D σ H
def Ret {R : Type} (fm : Fm K R) (Δ : Ctx K S) (σ : L2.St) (F H : Hp) (x : R) (rt : VK) : Prop :=
  ∀ v F1 H1, GrR Δ σ F H F1 H1 → RetOk (Fresh (musOf 0 fm.ps) Δ σ H) F1 H1 fm.ret v (fm.res x) → MuOk F1 H1 σ 0 fm.ps (fm.mv x) → rt v H1
def DR (K : PySem.W.Frag) (X : Cx) {R : Type} (fm : Fm K R) (Δ : Ctx K S) (sts : List Stmt) (cs : List (S → Prop)) (f : S → R) : Prop :=
  ∃ t : TS, PSs X sts t ∧ ∀ s F H σ, Holds Δ s F H σ → Same F H → Conj cs s → ∀ D : Ends, Ret fm Δ σ F H (f s) D.rt → t D σ H
def DSm (K : PySem.W.Frag) (X : Cx) {R : Type} (fm : Fm K R) (Δ : Ctx K S) (st : Stmt) (cs : List (S → Prop)) (r : S → Option R) (Δ1 : Ctx K S) : Prop :=
  ∃ t : TS, PS X st t ∧ ∀ s F H σ, Holds Δ s F H σ → Same F H → Conj cs s → ∀ D : Ends, (∀ x, r s = some x → Ret fm Δ σ F H x D.rt) → (r s = none → ∀ σ1 F1 H1, GrS (musOf 0 fm.ps) Δ σ Δ1 σ1 F H F1 H1 → Holds Δ1 s F1 H1 σ1 → D.nx σ1 H1) → t D σ H
def DM (K : PySem.W.Frag) (X : Cx) {R : Type} (fm : Fm K R) (Δ : Ctx K S) (sts : List Stmt) (cs : List (S → Prop)) (r : S → Option R) (Δ1 : Ctx K S) : Prop :=
  ∃ t : TS, PSs X sts t ∧ ∀ s F H σ, Holds Δ s F H σ → Same F H → Conj cs s → ∀ D : Ends, (∀ x, r s = some x → Ret fm Δ σ F H x D.rt) → (r s = none → ∀ σ1 F1 H1, GrS (musOf 0 fm.ps) Δ σ Δ1 σ1 F H F1 H1 → Holds Δ1 s F1 H1 σ1 → D.nx σ1 H1) → t D σ H
end
section
variable {K : PySem.W.Frag} {X : Cx} {S R : Type} {fm : Fm K R} {Δ Δ1 Δ2 Δ3 : Ctx K S} {st : Stmt} {sts : List Stmt} {e a b c : Expr} {pos p' : Pos} {τ : Ty K} {ω : OTy K} {mus ms m1 m2 : List Nat} {c1 c2 c3 cs : List (S → Prop)} {ta tb : TE} {tx : TT}
theorem Ret.back {σ σ1 : L2.St} {F H F1 H1 : Hp} {x : R} {rt : VK} (r : Ret fm Δ σ F H x rt) (g : GrS (musOf 0 fm.ps) Δ σ Δ1 σ1 F H F1 H1) : Ret fm Δ1 σ1 F1 H1 x rt := fun v F2 H2 g2 ro mo =>
  r v F2 H2 (GrR.after g g2) (ro.dom fun _ => Fresh.back g) (mo.congr fun j h => g.mu j h)
theorem DN.nil : DN K X mus Δ [] [] Δ := ⟨_, pss_nil, fun s F H σ hh sm _ D q => q σ F H (GrS.refl sm) hh⟩
theorem DN.cons (h1 : DS K X mus Δ st c1 Δ1) (h2 : DN K X mus Δ1 sts c2 Δ2) : DN K X mus Δ (st :: sts) (c1 ++ c2) Δ2 := by
  obtain ⟨t1, p1, r1⟩ := h1
  obtain ⟨t2, p2, r2⟩ := h2
  refine ⟨_, pss_cons p1 p2, fun s F H σ hh sm hc D q => ?_⟩
  obtain ⟨k1, k2⟩ := conj_app hc
  exact r1 s F H σ hh sm k1 _ fun σ1 F1 H1 g1 hh1 => r2 s F1 H1 σ1 hh1 g1.fh k2 D fun σ2 F2 H2 g2 hh2 => q σ2 F2 H2 (g1.trans g2) hh2
theorem DR.cons {f : S → R} (h1 : DS K X (musOf 0 fm.ps) Δ st c1 Δ1) (h2 : DR K X fm Δ1 sts c2 f) : DR K X fm Δ (st :: sts) (c1 ++ c2) f := by
  obtain ⟨t1, p1, r1⟩ := h1
  obtain ⟨t2, p2, r2⟩ := h2
  refine ⟨_, pss_cons p1 p2, fun s F H σ hh sm hc D q => ?_⟩
  obtain ⟨k1, k2⟩ := conj_app hc
  exact r1 s F H σ hh sm k1 _ fun σ1 F1 H1 g1 hh1 => r2 s F1 H1 σ1 hh1 g1.fh k2 D (q.back g1)
theorem DM.cons {r : S → Option R} (h1 : DS K X (musOf 0 fm.ps) Δ st c1 Δ1) (h2 : DM K X fm Δ1 sts c2 r Δ2) : DM K X fm Δ (st :: sts) (c1 ++ c2) r Δ2 := by
  obtain ⟨t1, p1, r1⟩ := h1
  obtain ⟨t2, p2, r2⟩ := h2
  refine ⟨_, pss_cons p1 p2, fun s F H σ hh sm hc D q1 q2 => ?_⟩
  obtain ⟨k1, k2⟩ := conj_app hc
  exact r1 s F H σ hh sm k1 _ fun σ1 F1 H1 g1 hh1 => r2 s F1 H1 σ1 hh1 g1.fh k2 D (fun x e => (q1 x e).back g1) fun e σ2 F2 H2 g2 hh2 => q2 e σ2 F2 H2 (g1.trans g2) hh2
def orElse {R : Type} (o : Option R) (x : R) : R := match o with | some y => y | none => x
def orElseO {R : Type} (o x : Option R) : Option R := match o with | some y => some y | none => x
theorem DR.consM {f : S → R} {r : S → Option R} (h1 : DSm K X fm Δ st c1 r Δ1) (h2 : DR K X fm Δ1 sts c2 f) : DR K X fm Δ (st :: sts) (c1 ++ [fun s => r s = none → Conj c2 s]) (fun s => orElse (r s) (f s)) := by
  obtain ⟨t1, p1, r1⟩ := h1
  obtain ⟨t2, p2, r2⟩ := h2
  refine ⟨_, pss_cons p1 p2, fun s F H σ hh sm hc D q => ?_⟩
  obtain ⟨k1, k2⟩ := conj_app hc
  refine r1 s F H σ hh sm k1 _ (fun x e => ?_) fun e σ1 F1 H1 g1 hh1 => r2 s F1 H1 σ1 hh1 g1.fh (k2.1 e) D ?_
  · simp only [e, orElse] at q; exact q
  · simp only [e, orElse] at q; exact q.back g1
theorem DM.consM {r r2 : S → Option R} (h1 : DSm K X fm Δ st c1 r Δ1) (h2 : DM K X fm Δ1 sts c2 r2 Δ2) : DM K X fm Δ (st :: sts) (c1 ++ [fun s => r s = none → Conj c2 s]) (fun s => orElseO (r s) (r2 s)) Δ2 := by
  obtain ⟨t1, p1, q1⟩ := h1
  obtain ⟨t2, p2, q2⟩ := h2
  refine ⟨_, pss_cons p1 p2, fun s F H σ hh sm hc D w1 w2 => ?_⟩
  obtain ⟨k1, k2⟩ := conj_app hc
  refine q1 s F H σ hh sm k1 _ (fun x e => ?_) fun e σ1 F1 H1 g1 hh1 => q2 s F1 H1 σ1 hh1 g1.fh (k2.1 e) D (fun x e2 => ?_) fun e2 σ2 F2 H2 g2 hh2 => ?_
  · exact w1 x (by simp only [e, orElseO])
  · exact (w1 x (by simp only [e, orElseO]; exact e2)).back g1
  · exact w2 (by simp only [e, orElseO]; exact e2) σ2 F2 H2 (g1.trans g2) hh2
/-- a block that returns ends a block that may -/
theorem DM.ofR {f : S → R} (h : DR K X fm Δ sts cs f) : DM K X fm Δ sts cs (fun s => some (f s)) Δ1 := by
  obtain ⟨t, p, r⟩ := h
  exact ⟨t, p, fun s F H σ hh sm hc D q1 _ => r s F H σ hh sm hc D (q1 _ rfl)⟩
theorem DM.ofN (h : DN K X (musOf 0 fm.ps) Δ sts cs Δ1) : DM K X fm Δ sts cs (fun _ => none) Δ1 := by
  obtain ⟨t, p, r⟩ := h
  exact ⟨t, p, fun s F H σ hh sm hc D _ q2 => r s F H σ hh sm hc D (q2 rfl)⟩

/-! #### return -/
theorem musOf_own {s : S} {F H : Hp} {σ : L2.St} (hh : Holds Δ s F H σ) : ∀ {ps : List (PK K)} {k : Nat} {g : S → HM ps}, MuF Δ k ps g → ∀ j ∈ musOf k ps, ∃ (ω : OTy K) (f : S → ω.τ.α), Δ[j]? = some (.ow ω f)
  | [], _, _, _, _, h => nomatch h
  | .fz _ :: ps, k, g, .fz t, j, h => musOf_own hh t j h
  | .mu ω :: ps, k, _, .mu e t, j, h => by
    rcases List.mem_cons.mp h with z | z
    · subst z; exact ⟨_, _, e⟩
    · exact musOf_own hh t j z
/-- what is handed back is the Lean value's part -/
structure ResF (fm : Fm K R) (ρ : RK K) (f : S → R) (fe : S → ρ.α) (g : S → HM fm.ps) : Prop where
  kind : fm.ret = ρ
  val : ∀ s, HEq (fm.res (f s)) (fe s)
  mus : ∀ s, fm.mv (f s) = g s
theorem ResF.ok {ρ : RK K} {f : S → R} {fe : S → ρ.α} {g : S → HM fm.ps} (h : ResF fm ρ f fe g) {s : S} {Fr : Addr → Prop} {F1 H1 : Hp} {v : V} (r : RetOk Fr F1 H1 ρ v (fe s)) : RetOk Fr F1 H1 fm.ret v (fm.res (f s)) := by
  have := h.val s
  revert this
  generalize fm.res (f s) = z
  revert z
  rw [h.kind]
  intro z hz
  rw [eq_of_heq hz]
  exact r
theorem DR.ret {f : S → R} {fe : S → τ.α} {g : S → HM fm.ps} (he : DX K X Δ e τ ms c1 Δ1 fe ta) (hm : ∀ i ∈ ms, ∃ (ω : OTy K) (f : S → ω.τ.α), Δ[i]? = some (.ow ω f)) (hg : MuF Δ1 0 fm.ps g) (hr : ResF fm (.fz τ) f fe g) : DR K X fm Δ [.Return (some e) pos] c1 f := by
  obtain ⟨d1, p, r⟩ := he
  refine ⟨_, pss_one (ps_ret p), fun s F H σ hh sm hc D q => r s F H σ hh sm hc _ fun v F1 H1 g1 hh1 r1 => ?_⟩
  exact q v F1 H1 (GrS.ofGr (mus := []) d1 hh hm g1).toGrR (hr.ok (show RetOk _ F1 H1 (.fz τ) v (fe s) from r1)) (by rw [hr.mus]; exact hg.ok hh1)
theorem DR.retO {f : S → R} {fe : S → ω.τ.α} {g : S → HM fm.ps} (he : DO K X Δ e ω ms c1 Δ1 fe ta) (hm : ∀ i ∈ ms, ∃ (ω : OTy K) (f : S → ω.τ.α), Δ[i]? = some (.ow ω f)) (hg : MuF Δ1 0 fm.ps g) (hr : ResF fm (.ow ω) f fe g) : DR K X fm Δ [.Return (some e) pos] c1 f := by
  obtain ⟨d1, p, r⟩ := he
  refine ⟨_, pss_one (ps_ret p), fun s F H σ hh sm hc D q => r s F H σ hh sm hc _ fun p u F1 H1 g1 hh1 n1 n2 e1 o1 => ?_⟩
  have gs := GrS.ofGr (mus := musOf 0 fm.ps) d1 hh hm g1
  refine q _ F1 H1 gs.toGrR (hr.ok ⟨p, u, rfl, ⟨.inl n1, fun j hj z => ?_⟩, n2, e1, o1⟩) (by rw [hr.mus]; exact hg.ok hh1)
  obtain ⟨ω', f', h'⟩ := musOf_own hh1 hg j hj
  obtain ⟨ω2, f2, h2⟩ := d1.own j ω' f' h'
  obtain ⟨q2, u2, e2, _, hp2, _⟩ := hh.at_ j _ _ h2 z
  cases e2
  rw [n1] at hp2
  cases hp2
/-- an own object that stands at a name (no parameter) is handed back -/
theorem DR.retN {f : S → R} {i : Nat} {x : Str} {fe : S → ω.τ.α} {g : S → HM fm.ps} (h : Δ[i]? = some (.ow ω fe)) (hi : i ∉ musOf 0 fm.ps) (hg : MuF Δ 0 fm.ps g) (hr : ResF fm (.ow ω) f fe g) (hN : X.N[i]? = some x := by rfl) (hv : Vis X.env.scope x := by first | exact Or.inl rfl | exact Or.inr (Or.inl rfl) | exact Or.inr (Or.inr rfl)) (hd : (x == ("__debug__" : Str)) = false := by decide)
    (hcd : (x == ("__classdict__" : Str)) = false := by decide) : DR K X fm Δ [.Return (some (.Name x p')) pos] [] f := by
  refine ⟨_, pss_one (ps_ret (pe_var hN hv hd hcd)), fun s F H σ hh sm hc D q => ?_⟩
  have hl : i < σ.length := by rw [hh.len]; exact (List.getElem?_eq_some_iff.mp h).1
  obtain ⟨o, ho⟩ : ∃ o, σ[i]? = some o := ⟨_, List.getElem?_eq_getElem hl⟩
  obtain ⟨p, u, e, n, hp, w⟩ := hh.at_ i _ o h ho
  subst e
  refine ⟨.ref p, ho, q _ F H (GrS.refl (mus := []) sm).toGrR (hr.ok ⟨p, u, rfl, ⟨.inr ⟨i, ω, fe, h, ho⟩, fun j hj z => ?_⟩, n, hp, w⟩) (by rw [hr.mus]; exact hg.ok hh)⟩
  obtain ⟨ω', f', h'⟩ := musOf_own hh hg j hj
  exact hh.sep i j ω ω' fe f' p (fun e => hi (e ▸ hj)) h h' ho z
/-- a def's body -/
def DB (K : PySem.W.Frag) (X : Cx) {R : Type} (fm : Fm K R) (Δ : Ctx K S) (sts : List Stmt) (cs : List (S → Prop)) (f : S → R) : Prop :=
  ∃ t : TS, PSs X sts t ∧ ∀ s F H σ, Holds Δ s F H σ → Same F H → Conj cs s → ∀ Q : VK, Ret fm Δ σ F H (f s) Q → t { nx := fun _ H' => Q .non H', rt := Q } σ H
theorem DB.ofR {f : S → R} (h : DR K X fm Δ sts cs f) : DB K X fm Δ sts cs f := by
  obtain ⟨t, p, r⟩ := h
  exact ⟨t, p, fun s F H σ hh sm hc Q q => r s F H σ hh sm hc _ q⟩
/-- the end of the body without a return: None -/
theorem DB.ofN {f : S → R} {g : S → HM fm.ps} (he : DN K X (musOf 0 fm.ps) Δ sts c1 Δ1) (hg : MuF Δ1 0 fm.ps g) (hr : ResF fm (.fz (tNone K)) f (fun _ => ()) g) : DB K X fm Δ sts c1 f := by
  obtain ⟨t, p, r⟩ := he
  refine ⟨t, p, fun s F H σ hh sm hc Q q => r s F H σ hh sm hc _ fun σ1 F1 H1 g1 hh1 => ?_⟩
  exact q .non F1 H1 g1.toGrR (hr.ok (show RetOk _ F1 H1 (.fz (tNone K)) .non () from rfl)) (by rw [hr.mus]; exact (hg.ok hh1).congr fun j h => g1.mu j h)
end
end Dx

/-! Dx, part E: stores, if, methods that change. -/
namespace Dx
open PySem PySem.Spec PyProof.Rows L2
section
variable {K : PySem.W.Frag} {S : Type} {Δ Δ1 : Ctx K S} {s : S} {F H F1 H1 : Hp} {σ : L2.St} {i : Nat} {τ : Ty K} {ω : OTy K} {mus : List Nat}
def OwnAll (Δ : Ctx K S) : List Nat → Prop
  | [] => True
  | i :: is => (∃ (ω : OTy K) (f : S → ω.τ.α), Δ[i]? = some (.ow ω f)) ∧ OwnAll Δ is
theorem OwnAll.all : ∀ {ms : List Nat}, OwnAll Δ ms → ∀ i ∈ ms, ∃ (ω : OTy K) (f : S → ω.τ.α), Δ[i]? = some (.ow ω f)
  | [], _, _, h => nomatch h
  | j :: ms, h, i, m => by
    rcases List.mem_cons.mp m with e | e
    · subst e; exact h.1
    · exact OwnAll.all h.2 i e
theorem get_set {α : Type} {xs : List α} {i j : Nat} {x y : α} (h : (xs.set i x)[j]? = some y) : (i = j ∧ y = x ∧ i < xs.length) ∨ (i ≠ j ∧ xs[j]? = some y) := by
  by_cases e : i = j
  · subst e
    have hl : i < xs.length := by
      have := (List.getElem?_eq_some_iff.mp h).1
      rwa [List.length_set] at this
    rw [List.getElem?_set_self hl] at h
    exact .inl ⟨rfl, (Option.some.inj h).symm, hl⟩
  · rw [List.getElem?_set_ne e] at h
    exact .inr ⟨e, h⟩
theorem get_set1 {α : Type 1} {xs : List α} {i j : Nat} {x y : α} (h : (xs.set i x)[j]? = some y) : (i = j ∧ y = x ∧ i < xs.length) ∨ (i ≠ j ∧ xs[j]? = some y) := by
  by_cases e : i = j
  · subst e
    have hl : i < xs.length := by
      have := (List.getElem?_eq_some_iff.mp h).1
      rwa [List.length_set] at this
    rw [List.getElem?_set_self hl] at h
    exact .inl ⟨rfl, (Option.some.inj h).symm, hl⟩
  · rw [List.getElem?_set_ne e] at h
    exact .inr ⟨e, h⟩
theorem Holds.setF {v : V} {f : S → τ.α} (hh : Holds Δ s F H σ) (r : τ.rep F v (f s)) : Holds (Δ.set i (.fz τ f)) s F H (σ.set i (some v)) where
  len := by rw [List.length_set, List.length_set, hh.len]
  at_ := fun j sl o e1 e2 => by
    rcases get_set1 e1 with ⟨rfl, rfl, _⟩ | ⟨n, e1⟩
    · rcases get_set e2 with ⟨_, rfl, _⟩ | ⟨n, _⟩
      · exact ⟨v, rfl, r⟩
      · exact absurd rfl n
    · rw [List.getElem?_set_ne n] at e2
      exact hh.at_ j sl o e1 e2
  sep := fun j k ω ω' g g' p n e1 e2 e3 => by
    rcases get_set1 e1 with ⟨_, z, _⟩ | ⟨n1, e1⟩
    · cases z
    · rcases get_set1 e2 with ⟨_, z, _⟩ | ⟨n2, e2⟩
      · cases z
      · rw [List.getElem?_set_ne n1] at e3
        rw [List.getElem?_set_ne n2]
        exact hh.sep j k ω ω' g g' p n e1 e2 e3
theorem Holds.setO {p : Addr} {u : HO} {f : S → ω.τ.α} (hh : Holds Δ s F H σ) (n : F p = none) (hp : H p = some u) (o : ω.own F u (f s)) (hno : ¬ Own Δ σ p) : Holds (Δ.set i (.ow ω f)) s F H (σ.set i (some (.ref p))) where
  len := by rw [List.length_set, List.length_set, hh.len]
  at_ := fun j sl o' e1 e2 => by
    rcases get_set1 e1 with ⟨rfl, rfl, _⟩ | ⟨n1, e1⟩
    · rcases get_set e2 with ⟨_, rfl, _⟩ | ⟨n2, _⟩
      · exact ⟨p, u, rfl, n, hp, o⟩
      · exact absurd rfl n2
    · rw [List.getElem?_set_ne n1] at e2
      exact hh.at_ j sl o' e1 e2
  sep := fun j k ω1 ω2 g g' q ne e1 e2 e3 => by
    rcases get_set1 e1 with ⟨rfl, z, hl⟩ | ⟨n1, e1⟩
    · rw [List.getElem?_set_self (by rw [hh.len]; exact hl)] at e3
      cases e3
      rcases get_set1 e2 with ⟨z2, _, _⟩ | ⟨n2, e2⟩
      · exact absurd z2 ne
      · rw [List.getElem?_set_ne n2]
        intro e4
        exact hno ⟨k, ω2, g', e2, e4⟩
    · rw [List.getElem?_set_ne n1] at e3
      rcases get_set1 e2 with ⟨rfl, z, hl⟩ | ⟨n2, e2⟩
      · rw [List.getElem?_set_self (by rw [hh.len]; exact hl)]
        intro e4
        cases e4
        exact hno ⟨j, ω1, g, e1, e3⟩
      · rw [List.getElem?_set_ne n2]
        exact hh.sep j k ω1 ω2 g g' q ne e1 e2 e3
/-- an own object is changed -/
theorem Holds.mut {p : Addr} {u' : HO} {f f' : S → ω.τ.α} (hh : Holds Δ s F H σ) (h : Δ[i]? = some (.ow ω f)) (hσ : σ[i]? = some (some (.ref p))) (o : ω.own F u' (f' s)) : Holds (Δ.set i (.ow ω f')) s F (upd H p u') σ where
  len := by rw [List.length_set, hh.len]
  at_ := fun j sl o' e1 e2 => by
    obtain ⟨q, u, e3, n, hp, _⟩ := hh.at_ i _ _ h hσ
    cases e3
    rcases get_set1 e1 with ⟨rfl, rfl, _⟩ | ⟨n1, e1⟩
    · rw [hσ] at e2; cases e2
      exact ⟨p, u', rfl, n, upd_same, o⟩
    · have r := hh.at_ j sl o' e1 e2
      cases sl with
      | dead => trivial
      | fz τ g => exact r
      | ow ω2 g =>
        obtain ⟨p2, u2, e4, n2, hp2, o2⟩ := r
        subst e4
        refine ⟨p2, u2, rfl, n2, ?_, o2⟩
        rw [upd_ne fun z => hh.sep i j ω ω2 f g p n1 h e1 hσ (by rw [e2, z])]
        exact hp2
  sep := fun j k ω1 ω2 g g' q ne e1 e2 e3 => by
    have ok : ∀ {j : Nat} {ω1 : OTy K} {g : S → ω1.τ.α}, (Δ.set i (.ow ω f'))[j]? = some (.ow ω1 g) → ∃ (ω' : OTy K) (g' : S → ω'.τ.α), Δ[j]? = some (.ow ω' g') := fun {j ω1 g} e => by
      rcases get_set1 e with ⟨rfl, _, _⟩ | ⟨_, e⟩
      · exact ⟨_, _, h⟩
      · exact ⟨_, _, e⟩
    obtain ⟨_, _, k1⟩ := ok e1
    obtain ⟨_, _, k2⟩ := ok e2
    exact hh.sep j k _ _ _ _ q ne k1 k2 e3
theorem diff_mut {f f' : S → ω.τ.α} (h : Δ[i]? = some (.ow ω f)) : Diff [i] Δ (Δ.set i (.ow ω f')) := ⟨List.length_set .., fun k n => List.getElem?_set_ne fun e => n (by rw [e]; exact List.mem_singleton.mpr rfl), fun k ω2 g e => by
  rcases get_set1 e with ⟨rfl, _, _⟩ | ⟨_, e⟩
  · exact ⟨_, _, h⟩
  · exact ⟨_, _, e⟩⟩
theorem gr_mut {p : Addr} {u' : HO} (sm : Same F H) (n : F p = none) (hp : H p ≠ none) (hσ : σ[i]? = some (some (.ref p))) : Gr (MsAt [i] σ) F H F (upd H p u') where
  ff := Same.refl F
  fh := fun a o e => by rw [upd_ne (ne_of_none e n)]; exact sm a o e
  fresh := fun a o e => .inl e
  keep := fun a o e nb => by rw [upd_ne fun z => nb ⟨i, List.mem_singleton.mpr rfl, by rw [z]; exact hσ⟩]; exact e
  dom := fun a e => by
    by_cases z : a = p
    · subst z; rw [upd_same] at e; cases e
    · rw [upd_ne z] at e; exact e
/-- a name is stored -/
theorem GrS.set {sl : Slot K S} {o : Option V} (g : GrS mus Δ σ Δ1 σ F H F1 H1) (hi : i ∉ mus) (hl : Δ1.length = σ.length) (hp : ∀ (ω : OTy K) (f : S → ω.τ.α) p, sl = .ow ω f → o = some (.ref p) → H p = none) : GrS mus Δ σ (Δ1.set i sl) (σ.set i o) F H F1 H1 :=
  { g.toGrR with
    own := fun a ⟨j, ω, f, e1, e2⟩ => by
      rcases get_set1 e1 with ⟨rfl, z, hl2⟩ | ⟨n, e1⟩
      · rw [List.getElem?_set_self (by rw [← hl]; exact hl2)] at e2
        exact .inr (hp ω f a z.symm (Option.some.inj e2))
      · rw [List.getElem?_set_ne n] at e2
        exact g.own a ⟨j, ω, f, e1, e2⟩
    mu := fun k h => by rw [List.getElem?_set_ne (fun (e : i = k) => hi (by rw [e]; exact h))] }
end
section
variable {K : PySem.W.Frag} {X : Cx} {S R : Type} {fm : Fm K R} {Δ Δ1 Δ2 Δ3 Δa Δb Δj : Ctx K S} {st : Stmt} {sts : List Stmt} {e a b c : Expr} {pos p' : Pos} {τ : Ty K} {ts : List (Ty K)} {ω : OTy K} {mus ms m1 m2 : List Nat} {c1 c2 c3 cs : List (S → Prop)} {ta tb : TE} {tx : TT} {tl : TA} {i : Nat} {x : Str}
/-! #### targets -/
/-- the value h s goes to a target -/
def DG (K : PySem.W.Frag) (X : Cx) (Δ : Ctx K S) (tg : Expr) (τ : Ty K) (h : S → τ.α) (is : List Nat) (Δ1 : Ctx K S) (g : TG) : Prop :=
  Δ1.length = Δ.length ∧ PG X tg g ∧ ∀ s F H σ v, Holds Δ s F H σ → Same F H → τ.rep F v (h s) → ∀ Q : L2.St → Hp → Prop, (∀ σ1, Holds Δ1 s F H σ1 → (∀ a, Own Δ1 σ1 a → Own Δ σ a) → (∀ k, k ∉ is → σ1[k]? = σ[k]?) → Q σ1 H) → g v σ H Q
def DGs (K : PySem.W.Frag) (X : Cx) (Δ : Ctx K S) (tgs : List Expr) (ts : List (Ty K)) (h : S → HL ts) (is : List Nat) (Δ1 : Ctx K S) (g : TGs) : Prop :=
  Δ1.length = Δ.length ∧ PGs X tgs g ∧ ∀ s F H σ vs, Holds Δ s F H σ → Same F H → RepAll F ts vs (h s) → ∀ Q : L2.St → Hp → Prop, (∀ σ1, Holds Δ1 s F H σ1 → (∀ a, Own Δ1 σ1 a → Own Δ σ a) → (∀ k, k ∉ is → σ1[k]? = σ[k]?) → Q σ1 H) → g vs σ H Q
theorem DG.name {h : S → τ.α} (hN : X.N.Nodup) (hi : X.N[i]? = some x) (hx : Loc X.env.scope x) (hf : X.fn x = true ∨ X.env.scope.names.lookup x = some .local := by first | exact .inl rfl | exact .inr rfl | assumption) : DG K X Δ (.Name x pos) τ h [i] (Δ.set i (.fz τ h)) (gName i) :=
  ⟨List.length_set .., pg_name hN hi hx hf, fun s F H σ v hh sm r Q q => q _ (hh.setF r) (fun a ⟨j, ω, f, e1, e2⟩ => by
    rcases get_set1 e1 with ⟨_, z, _⟩ | ⟨n, e1⟩
    · cases z
    · rw [List.getElem?_set_ne n] at e2
      exact ⟨j, ω, f, e1, e2⟩) fun k n => List.getElem?_set_ne fun e => n (by rw [e]; exact List.mem_singleton.mpr rfl)⟩
theorem DGs.one {h : S → τ.α} {g : TG} {is : List Nat} (ha : DG K X Δ e τ h is Δ1 g) (hs : (assignEach [e] X.env).map (·.2) = assign e X.env :: (assignEach [] X.env).map (·.2) := by rfl) : DGs K X Δ [e] [τ] h is Δ1 (gCons g gNil) :=
  ⟨ha.1, pgs_cons ha.2.1 pgs_nil hs, fun s F H σ vs hh sm ⟨v, ev, r⟩ Q q => ⟨v, [], ev, ha.2.2 s F H σ v hh sm r _ fun σ1 k1 k2 k3 => ⟨rfl, q σ1 k1 k2 k3⟩⟩⟩
theorem DGs.cons {σt : Ty K} {es : List Expr} {h : S → HL (τ :: σt :: ts)} {g : TG} {gs : TGs} {is js : List Nat} (ha : DG K X Δ e τ (fun s => (h s).1) is Δ1 g) (hb : DGs K X Δ1 es (σt :: ts) (fun s => (h s).2) js Δ2 gs) (hs : (assignEach (e :: es) X.env).map (·.2) = assign e X.env :: (assignEach es X.env).map (·.2) := by rfl) :
    DGs K X Δ (e :: es) (τ :: σt :: ts) h (is ++ js) Δ2 (gCons g gs) :=
  ⟨hb.1.trans ha.1, pgs_cons ha.2.1 hb.2.1 hs, fun s F H σ vs hh sm ⟨v, r, ev, r1, r2⟩ Q q => ⟨v, r, ev, ha.2.2 s F H σ v hh sm r1 _ fun σ1 k1 k2 k3 => hb.2.2 s F H σ1 r k1 sm r2 _ fun σ2 l1 l2 l3 =>
    q σ2 l1 (fun a z => k2 a (l2 a z)) fun k n => (l3 k fun z => n (List.mem_append_right _ z)).trans (k3 k fun z => n (List.mem_append_left _ z))⟩⟩
theorem DG.tup {es : List Expr} {k : Nat} {h : S → HL ts} {gs : TGs} {is : List Nat} (hb : DGs K X Δ es ts h is Δ1 gs) (hc : X.calm = true := by rfl) (hn : (assignEach es X.env).length = ts.length := by rfl) (hst : (assignEach es X.env).findIdx? (·.1) = none := by rfl) (hK : X.K = K := by rfl) : DG K X Δ (.Tuple es k pos) (tTp ts) h is Δ1 (gTup K ts.length gs) := by
  subst hK
  exact ⟨hb.1, pg_tup hc hb.2.1 hn hst, fun s F H σ v hh sm ⟨a, vs, ev, q1, r⟩ Q q => ⟨a, vs, ev, .inl (.inl (sm _ _ q1)), r.length, hb.2.2 s F H σ vs hh sm r Q q⟩⟩
/-- tg = e -/
theorem DS.asg {h : S → τ.α} {tg : Expr} {g : TG} {is : List Nat} (he : DX K X Δ e τ ms c1 Δ1 h ta) (hg : DG K X Δ1 tg τ h is Δ2 g) (hm : OwnAll Δ ms) (hi : ∀ j ∈ is, j ∉ mus) (hs : swapsWithSole [tg] e pos.line X.env = pure false := by rfl) (hw : swappedStores [tg] e X.env = pure none := by rfl)
    (h1 : (assignEach [tg] X.env).map (·.2) = [assign tg X.env] := by rfl) : DS K X mus Δ (.Assign [tg] e pos) c1 Δ2 := by
  obtain ⟨d1, p, r⟩ := he
  refine ⟨_, ps_asg p hg.2.1 hs hw h1, fun s F H σ hh sm hc D q => r s F H σ hh sm hc _ fun v F1 H1 g1 hh1 r1 => hg.2.2 s F1 H1 σ v hh1 g1.fh r1 _ fun σ1 k1 k2 k3 => q σ1 F1 H1 ?_ k1⟩
  have gs : GrS mus Δ σ Δ1 σ F H F1 H1 := GrS.ofGr d1 hh hm.all g1
  exact { gs.toGrR with own := fun a z => gs.own a (k2 a z), mu := fun k m => k3 k fun z => hi k z m }
/-- x = e, a new object of one's own -/
theorem DS.setO {h : S → ω.τ.α} {px : Pos} (he : DO K X Δ e ω ms c1 Δ1 h ta) (hm : OwnAll Δ ms) (hN : X.N.Nodup) (hi : X.N[i]? = some x) (hx : Loc X.env.scope x) (hu : i ∉ mus) (hf : X.fn x = true ∨ X.env.scope.names.lookup x = some .local := by first | exact .inl rfl | exact .inr rfl | assumption) (hs : swapsWithSole [.Name x px] e pos.line X.env = pure false := by rfl) (hw : swappedStores [.Name x px] e X.env = pure none := by rfl)
    (h1 : (assignEach [.Name x px] X.env).map (·.2) = [assign (.Name x px) X.env] := by rfl) : DS K X mus Δ (.Assign [.Name x px] e pos) c1 (Δ1.set i (.ow ω h)) := by
  obtain ⟨d1, p, r⟩ := he
  refine ⟨_, ps_asg p (pg_name hN hi hx hf) hs hw h1, fun s F H σ hh sm hc D q => r s F H σ hh sm hc _ fun a u F1 H1 g1 hh1 n1 n2 e1 o1 => ?_⟩
  have gs : GrS mus Δ σ Δ1 σ F H F1 H1 := GrS.ofGr d1 hh hm.all g1
  refine q _ F1 H1 (gs.set hu hh1.len.symm fun ω f p _ e => by cases e; exact n1) (hh1.setO n2 e1 o1 fun z => ?_)
  obtain ⟨j, ω', f', e2, e3⟩ := z
  exact (d1.was hh e2 e3).2 n1
/-- an own object from here on stays as it is -/
theorem Holds.freeze {s : S} {F H : Hp} {σ : L2.St} {p : Addr} {u : HO} {f : S → ω.τ.α} (hh : Holds Δ s F H σ) (h : Δ[i]? = some (.ow ω f)) (hσ : σ[i]? = some (some (.ref p))) (hp : H p = some u) (n : F p = none) : Holds (Δ.set i (.fz ω.τ f)) s (upd F p u) H σ where
  len := by rw [List.length_set, hh.len]
  at_ := fun j sl o e1 e2 => by
    have sf : Same F (upd F p u) := same_new n
    rcases get_set1 e1 with ⟨rfl, rfl, _⟩ | ⟨n1, e1⟩
    · obtain ⟨q, u2, e3, _, hp2, w⟩ := hh.at_ i _ _ h hσ
      cases e3
      rw [hp] at hp2; cases hp2
      rw [hσ] at e2; cases e2
      exact ⟨.ref p, rfl, ω.frz (ω.mono sf w) upd_same⟩
    · have r := hh.at_ j sl o e1 e2
      cases sl with
      | dead => trivial
      | fz τ g => obtain ⟨v, ev, rv⟩ := r; exact ⟨v, ev, τ.mono sf rv⟩
      | ow ω2 g =>
        obtain ⟨p2, u2, e4, n2, hp2, o2⟩ := r
        subst e4
        refine ⟨p2, u2, rfl, ?_, hp2, ω2.mono sf o2⟩
        rw [upd_ne fun z => hh.sep i j ω ω2 f g p n1 h e1 hσ (by rw [e2, z])]
        exact n2
  sep := fun j k ω1 ω2 g g' q ne e1 e2 e3 => by
    rcases get_set1 e1 with ⟨_, z, _⟩ | ⟨_, e1⟩
    · cases z
    · rcases get_set1 e2 with ⟨_, z, _⟩ | ⟨_, e2⟩
      · cases z
      · exact hh.sep j k ω1 ω2 g g' q ne e1 e2 e3
theorem grs_freeze {s : S} {F H : Hp} {σ : L2.St} {p : Addr} {u : HO} {f : S → ω.τ.α} (hh : Holds Δ s F H σ) (sm : Same F H) (h : Δ[i]? = some (.ow ω f)) (hσ : σ[i]? = some (some (.ref p))) (hp : H p = some u) (n : F p = none) : GrS mus Δ σ (Δ.set i (.fz ω.τ f)) σ F H (upd F p u) H where
  ff := same_new n
  fh := fun a o e => by
    by_cases z : a = p
    · subst z; rw [upd_same] at e; rw [hp]; exact e
    · rw [upd_ne z] at e; exact sm a o e
  fresh := fun a o e => by
    by_cases z : a = p
    · subst z; exact .inr (.inr ⟨i, ω, f, h, hσ⟩)
    · rw [upd_ne z] at e; exact .inl e
  keep := fun a o e _ => e
  dom := fun a e => e
  own := fun a ⟨j, ω2, g, e1, e2⟩ => by
    rcases get_set1 e1 with ⟨_, z, _⟩ | ⟨_, e1⟩
    · cases z
    · exact .inl ⟨j, ω2, g, e1, e2⟩
  mu := fun _ _ => rfl
theorem own_at {s : S} {F H : Hp} {σ : L2.St} {f : S → ω.τ.α} (hh : Holds Δ s F H σ) (h : Δ[i]? = some (.ow ω f)) : ∃ p u, σ[i]? = some (some (.ref p)) ∧ F p = none ∧ H p = some u ∧ ω.own F u (f s) := by
  have hl : i < σ.length := by rw [hh.len]; exact (List.getElem?_eq_some_iff.mp h).1
  obtain ⟨o, ho⟩ : ∃ o, σ[i]? = some o := ⟨_, List.getElem?_eq_getElem hl⟩
  obtain ⟨p, u, e, r⟩ := hh.at_ i _ o h ho
  exact ⟨p, u, by rw [ho, e], r⟩
theorem DN.freeze (i : Nat) {f : S → ω.τ.α} (h : Δ[i]? = some (.ow ω f)) (hb : DN K X mus (Δ.set i (.fz ω.τ f)) sts cs Δ1) : DN K X mus Δ sts cs Δ1 := by
  obtain ⟨t, p, r⟩ := hb
  refine ⟨t, p, fun s F H σ hh sm hc D q => ?_⟩
  obtain ⟨a, u, e1, e2, e3, _⟩ := own_at hh h
  have g := grs_freeze (mus := mus) hh sm h e1 e3 e2
  exact r s _ H σ (hh.freeze h e1 e3 e2) g.fh hc D fun σ1 F1 H1 g1 hh1 => q σ1 F1 H1 (g.trans g1) hh1
theorem DR.freeze (i : Nat) {f : S → ω.τ.α} {g : S → R} (h : Δ[i]? = some (.ow ω f)) (hb : DR K X fm (Δ.set i (.fz ω.τ f)) sts cs g) : DR K X fm Δ sts cs g := by
  obtain ⟨t, p, r⟩ := hb
  refine ⟨t, p, fun s F H σ hh sm hc D q => ?_⟩
  obtain ⟨a, u, e1, e2, e3, _⟩ := own_at hh h
  have g := grs_freeze (mus := musOf 0 fm.ps) hh sm h e1 e3 e2
  exact r s _ H σ (hh.freeze h e1 e3 e2) g.fh hc D (q.back g)
theorem DM.freeze (i : Nat) {f : S → ω.τ.α} {g : S → Option R} (h : Δ[i]? = some (.ow ω f)) (hb : DM K X fm (Δ.set i (.fz ω.τ f)) sts cs g Δ1) : DM K X fm Δ sts cs g Δ1 := by
  obtain ⟨t, p, r⟩ := hb
  refine ⟨t, p, fun s F H σ hh sm hc D q1 q2 => ?_⟩
  obtain ⟨a, u, e1, e2, e3, _⟩ := own_at hh h
  have g := grs_freeze (mus := musOf 0 fm.ps) hh sm h e1 e3 e2
  exact r s _ H σ (hh.freeze h e1 e3 e2) g.fh hc D (fun x e => (q1 x e).back g) fun e σ1 F1 H1 g1 hh1 => q2 e σ1 F1 H1 (g.trans g1) hh1

/-! #### if -/
/-- two contexts behind the branches -/
inductive Join (h : S → Bool) : Ctx K S → Ctx K S → Ctx K S → Prop
  | nil : Join h [] [] []
  | same {sl : Slot K S} {Δa Δb Δj : Ctx K S} : Join h Δa Δb Δj → Join h (sl :: Δa) (sl :: Δb) (sl :: Δj)
  | fz {τ : Ty K} {f g : S → τ.α} {Δa Δb Δj : Ctx K S} : Join h Δa Δb Δj → Join h (.fz τ f :: Δa) (.fz τ g :: Δb) (.fz τ (fun s => if h s = true then f s else g s) :: Δj)
  | ow {ω : OTy K} {f g : S → ω.τ.α} {Δa Δb Δj : Ctx K S} : Join h Δa Δb Δj → Join h (.ow ω f :: Δa) (.ow ω g :: Δb) (.ow ω (fun s => if h s = true then f s else g s) :: Δj)
  | dead {sa sb : Slot K S} {Δa Δb Δj : Ctx K S} : Join h Δa Δb Δj → Join h (sa :: Δa) (sb :: Δb) (.dead :: Δj)
/-- told as another context tells it, at s -/
structure AsC {T : Type} (Δ : Ctx K S) (s : S) (Δ' : Ctx K T) (s' : T) : Prop where
  len : Δ'.length = Δ.length
  sl : ∀ (i : Nat) (sl' : Slot K T), Δ'[i]? = some sl' → sl' = .dead ∨ (∃ (τ : Ty K) (f : S → τ.α) (f' : T → τ.α), Δ[i]? = some (.fz τ f) ∧ sl' = .fz τ f' ∧ f s = f' s') ∨ ∃ (ω : OTy K) (f : S → ω.τ.α) (f' : T → ω.τ.α), Δ[i]? = some (.ow ω f) ∧ sl' = .ow ω f' ∧ f s = f' s'
theorem AsC.holds {T : Type} {Δ' : Ctx K T} {s : S} {s' : T} {F H : Hp} {σ : L2.St} (h : AsC Δ s Δ' s') (hh : Holds Δ s F H σ) : Holds Δ' s' F H σ where
  len := hh.len.trans h.len.symm
  at_ := fun i sl o e1 e2 => by
    rcases h.sl i sl e1 with z | ⟨τ, f, f', k1, z, k2⟩ | ⟨ω, f, f', k1, z, k2⟩
    · subst z; trivial
    · subst z
      obtain ⟨v, e, r⟩ := hh.at_ i _ o k1 e2
      exact ⟨v, e, by rw [← k2]; exact r⟩
    · subst z
      obtain ⟨p, u, e, n, hp, r⟩ := hh.at_ i _ o k1 e2
      exact ⟨p, u, e, n, hp, by rw [← k2]; exact r⟩
  sep := fun i j ω ω' f f' p n e1 e2 e3 => by
    rcases h.sl i _ e1 with z | ⟨_, _, _, _, z, _⟩ | ⟨_, _, _, k1, z, _⟩
    · cases z
    · cases z
    · rcases h.sl j _ e2 with y | ⟨_, _, _, _, y, _⟩ | ⟨_, _, _, k2, y, _⟩
      · cases y
      · cases y
      · exact hh.sep i j _ _ _ _ p n k1 k2 e3
theorem AsC.own {T : Type} {Δ' : Ctx K T} {s : S} {s' : T} {σ : L2.St} (h : AsC Δ s Δ' s') (a : Addr) : Own Δ' σ a → Own Δ σ a := fun ⟨i, ω, f, e1, e2⟩ => by
  rcases h.sl i _ e1 with z | ⟨_, _, _, _, z, _⟩ | ⟨_, _, _, k1, z, _⟩
  · cases z
  · cases z
  · exact ⟨i, _, _, k1, e2⟩
theorem AsC.nil {T : Type} {s : S} {s' : T} : AsC ([] : Ctx K S) s ([] : Ctx K T) s' := ⟨rfl, fun i sl e => by simp at e⟩
theorem AsC.cons {T : Type} {s : S} {s' : T} {sl : Slot K S} {sl' : Slot K T} {Δ' : Ctx K T} (h : sl' = .dead ∨ (∃ (τ : Ty K) (f : S → τ.α) (f' : T → τ.α), sl = .fz τ f ∧ sl' = .fz τ f' ∧ f s = f' s') ∨ ∃ (ω : OTy K) (f : S → ω.τ.α) (f' : T → ω.τ.α), sl = .ow ω f ∧ sl' = .ow ω f' ∧ f s = f' s') (t : AsC Δ s Δ' s') : AsC (sl :: Δ) s (sl' :: Δ') s' :=
  ⟨by rw [List.length_cons, List.length_cons, t.len], fun i y e => by
    cases i with
    | zero =>
      have e' : sl' = y := by simpa using e
      subst e'
      rcases h with z | ⟨τ, f, f', k1, k2, k3⟩ | ⟨ω, f, f', k1, k2, k3⟩
      · exact .inl z
      · exact .inr (.inl ⟨τ, f, f', by rw [k1]; rfl, k2, k3⟩)
      · exact .inr (.inr ⟨ω, f, f', by rw [k1]; rfl, k2, k3⟩)
    | succ i => exact t.sl i y (by simpa using e)⟩
theorem AsC.refl {s : S} : ∀ {Δ : Ctx K S}, AsC Δ s Δ s
  | [] => .nil
  | .dead :: Δ => .cons (.inl rfl) AsC.refl
  | .fz τ f :: Δ => .cons (.inr (.inl ⟨τ, f, f, rfl, rfl, rfl⟩)) AsC.refl
  | .ow ω f :: Δ => .cons (.inr (.inr ⟨ω, f, f, rfl, rfl, rfl⟩)) AsC.refl
theorem Join.yes {h : S → Bool} {s : S} (e : h s = true) (j : Join h Δa Δb Δj) : AsC Δa s Δj s := by
  induction j with
  | nil => exact .nil
  | @same sl _ _ _ _ ih =>
    cases sl with
    | dead => exact .cons (.inl rfl) ih
    | fz τ f => exact .cons (.inr (.inl ⟨τ, f, f, rfl, rfl, rfl⟩)) ih
    | ow ω f => exact .cons (.inr (.inr ⟨ω, f, f, rfl, rfl, rfl⟩)) ih
  | @fz τ f g _ _ _ _ ih => exact .cons (.inr (.inl ⟨τ, f, _, rfl, rfl, by simp only [e, if_true]⟩)) ih
  | @ow ω f g _ _ _ _ ih => exact .cons (.inr (.inr ⟨ω, f, _, rfl, rfl, by simp only [e, if_true]⟩)) ih
  | dead _ ih => exact .cons (.inl rfl) ih
theorem Join.no {h : S → Bool} {s : S} (e : h s = false) (j : Join h Δa Δb Δj) : AsC Δb s Δj s := by
  induction j with
  | nil => exact .nil
  | @same sl _ _ _ _ ih =>
    cases sl with
    | dead => exact .cons (.inl rfl) ih
    | fz τ f => exact .cons (.inr (.inl ⟨τ, f, f, rfl, rfl, rfl⟩)) ih
    | ow ω f => exact .cons (.inr (.inr ⟨ω, f, f, rfl, rfl, rfl⟩)) ih
  | @fz τ f g _ _ _ _ ih => exact .cons (.inr (.inl ⟨τ, g, _, rfl, rfl, by simp only [e, if_false, Bool.false_eq_true]⟩)) ih
  | @ow ω f g _ _ _ _ ih => exact .cons (.inr (.inr ⟨ω, g, _, rfl, rfl, by simp only [e, if_false, Bool.false_eq_true]⟩)) ih
  | dead _ ih => exact .cons (.inl rfl) ih
theorem GrS.as {T U : Type} {Δ0 : Ctx K U} {Δ' : Ctx K T} {s : S} {s' : T} {F H F1 H1 : Hp} {σ σ1 : L2.St} (g : GrS mus Δ0 σ Δ σ1 F H F1 H1) (h : AsC Δ s Δ' s') : GrS mus Δ0 σ Δ' σ1 F H F1 H1 := { g.toGrR with own := fun a z => g.own a (h.own a z), mu := g.mu }
theorem gs0 {s : S} {F H F1 H1 : Hp} {σ : L2.St} (hm : OwnAll Δ ms) (d : Diff ms Δ Δ1) (hh : Holds Δ s F H σ) (g : Gr (MsAt ms σ) F H F1 H1) : GrS mus Δ σ Δ1 σ F H F1 H1 := GrS.ofGr d hh hm.all g
theorem DS.ite {h : S → Bool} {sa sb : List Stmt} (hc : DT K X Δ c ms c1 Δ1 h tx) (hm : OwnAll Δ ms) (ha : DN K X mus Δ1 sa c2 Δa) (hb : DN K X mus Δ1 sb c3 Δb) (hj : Join h Δa Δb Δj) : DS K X mus Δ (.If c sa sb pos) (c1 ++ (guardT h c2 ++ guardF h c3)) Δj := by
  obtain ⟨d, pc, rc⟩ := hc
  obtain ⟨t1, p1, r1⟩ := ha
  obtain ⟨t2, p2, r2⟩ := hb
  refine ⟨_, ps_if pc p1 p2, fun s F H σ hh sm hc D q => ?_⟩
  obtain ⟨k1, k2⟩ := conj_app hc
  obtain ⟨k2, k3⟩ := conj_app k2
  refine rc s F H σ hh sm k1 _ fun F1 H1 g1 hh1 => ?_
  have gs : GrS mus Δ σ Δ1 σ F H F1 H1 := gs0 hm d hh g1
  cases e : h s with
  | true => exact r1 s F1 H1 σ hh1 g1.fh (guardT_conj e k2) D fun σ2 F2 H2 g2 hh2 => q σ2 F2 H2 ((gs.trans g2).as (hj.yes e)) ((hj.yes e).holds hh2)
  | false => exact r2 s F1 H1 σ hh1 g1.fh (guardF_conj e k3) D fun σ2 F2 H2 g2 hh2 => q σ2 F2 H2 ((gs.trans g2).as (hj.no e)) ((hj.no e).holds hh2)
theorem DSm.ite {h : S → Bool} {sa sb : List Stmt} {ra rb : S → Option R} (hc : DT K X Δ c ms c1 Δ1 h tx) (hm : OwnAll Δ ms) (ha : DM K X fm Δ1 sa c2 ra Δa) (hb : DM K X fm Δ1 sb c3 rb Δb) (hj : Join h Δa Δb Δj) : DSm K X fm Δ (.If c sa sb pos) (c1 ++ (guardT h c2 ++ guardF h c3)) (fun s => if h s = true then ra s else rb s) Δj := by
  obtain ⟨d, pc, rc⟩ := hc
  obtain ⟨t1, p1, r1⟩ := ha
  obtain ⟨t2, p2, r2⟩ := hb
  refine ⟨_, ps_if pc p1 p2, fun s F H σ hh sm hc D q1 q2 => ?_⟩
  obtain ⟨k1, k2⟩ := conj_app hc
  obtain ⟨k2, k3⟩ := conj_app k2
  refine rc s F H σ hh sm k1 _ fun F1 H1 g1 hh1 => ?_
  have gs : GrS (musOf 0 fm.ps) Δ σ Δ1 σ F H F1 H1 := gs0 hm d hh g1
  cases e : h s with
  | true =>
    simp only [e, if_true] at q1 q2
    exact r1 s F1 H1 σ hh1 g1.fh (guardT_conj e k2) D (fun x z => (q1 x z).back gs) fun z σ2 F2 H2 g2 hh2 => q2 z σ2 F2 H2 ((gs.trans g2).as (hj.yes e)) ((hj.yes e).holds hh2)
  | false =>
    simp only [e, if_false, Bool.false_eq_true] at q1 q2
    exact r2 s F1 H1 σ hh1 g1.fh (guardF_conj e k3) D (fun x z => (q1 x z).back gs) fun z σ2 F2 H2 g2 hh2 => q2 z σ2 F2 H2 ((gs.trans g2).as (hj.no e)) ((hj.no e).holds hh2)
/-- if c: .. return; rest -/
theorem DR.if1 {f g : S → R} {h : S → Bool} {sa rest : List Stmt} (hc : DT K X Δ c ms c1 Δ1 h tx) (hm : OwnAll Δ ms) (ha : DR K X fm Δ1 sa c2 f) (hb : DR K X fm Δ1 rest c3 g) : DR K X fm Δ (.If c sa [] pos :: rest) (c1 ++ [fun s => if h s = true then Conj c2 s else Conj c3 s]) (fun s => if h s = true then f s else g s) := by
  obtain ⟨d, pc, rc⟩ := hc
  obtain ⟨t1, p1, r1⟩ := ha
  obtain ⟨t2, p2, r2⟩ := hb
  refine ⟨_, pss_cons (ps_if pc p1 pss_nil) p2, fun s F H σ hh sm hc D q => ?_⟩
  obtain ⟨k1, k2⟩ := conj_app hc
  obtain ⟨k2, _⟩ := k2
  refine rc s F H σ hh sm k1 _ fun F1 H1 g1 hh1 => ?_
  have gs : GrS (musOf 0 fm.ps) Δ σ Δ1 σ F H F1 H1 := gs0 hm d hh g1
  cases e : h s with
  | true =>
    simp only [e, if_true] at q k2
    exact r1 s F1 H1 σ hh1 g1.fh k2 _ (q.back gs)
  | false =>
    simp only [e, if_false, Bool.false_eq_true] at q k2
    exact r2 s F1 H1 σ hh1 g1.fh k2 D (q.back gs)
end
end Dx

/-! Dx, part F: methods that change, calls of defs, loops, comprehensions. -/
namespace Dx
open PySem PySem.Spec PyProof.Rows L2
section
variable {K : PySem.W.Frag} {X : Cx} {S R : Type} {fm : Fm K R} {Δ Δ1 Δ2 Δ3 Δa Δb Δj : Ctx K S} {st : Stmt} {sts : List Stmt} {e a b c : Expr} {es : List Expr} {pos p' apos : Pos} {τ τ1 τ2 : Ty K} {ts : List (Ty K)} {ω : OTy K} {mus ms m1 m2 : List Nat} {c1 c2 c3 cs : List (S → Prop)} {ta tb : TE} {tx : TT} {tl : TA} {i : Nat} {x : Str}
theorem DS.expr {f : S → τ.α} (he : DX K X Δ e τ ms c1 Δ1 f ta) (hm : OwnAll Δ ms) (hs : swapsWith e none pos.line X.env = pure false := by rfl) : DS K X mus Δ (.Expr e pos) c1 Δ1 := by
  obtain ⟨d1, p, r⟩ := he
  exact ⟨_, ps_expr p hs, fun s F H σ hh sm hc D q => r s F H σ hh sm hc _ fun v F1 H1 g1 hh1 _ => q σ F1 H1 (gs0 hm d1 hh g1) hh1⟩

/-! #### an own list is changed -/
theorem own_list {s : S} {F H : Hp} {σ : L2.St} {f : S → List τ.α} (hh : Holds Δ s F H σ) (h : Δ[i]? = some (.ow (oList τ) f)) : ∃ p vs, σ[i]? = some (some (.ref p)) ∧ F p = none ∧ H p = some (.lst vs) ∧ Paired (τ.rep F) vs (f s) ∧ (f s).length ≤ sizeLine := by
  obtain ⟨p, u, e1, e2, e3, vs, e4, r, z⟩ := own_at hh h
  subst e4
  exact ⟨p, vs, e1, e2, e3, r, z⟩
theorem paired_app {α β : Type} {R : α → β → Prop} : ∀ {xs xs' : List α} {ys ys' : List β}, Paired R xs ys → Paired R xs' ys' → Paired R (xs ++ xs') (ys ++ ys')
  | _, _, _, _, .nil, s => s
  | _, _, _, _, .cons r t, s => .cons r (paired_app t s)
theorem paired_set {α β : Type} {R : α → β → Prop} {x : α} {y : β} (r : R x y) : ∀ {xs : List α} {ys : List β} (i : Nat), Paired R xs ys → Paired R (xs.set i x) (ys.set i y)
  | _, _, _, .nil => .nil
  | _, _, 0, .cons _ t => .cons r t
  | _, _, i + 1, .cons q t => .cons q (paired_set r i t)
/-- x.append(e) -/
theorem DX.append {f : S → List τ.α} {fe : S → τ.α} {px : Pos} (he : DX K X Δ e τ ms c1 Δ1 fe ta) {f0 : S → List τ.α} (h0 : Δ[i]? = some (.ow (oList τ) f0)) (h : Δ1[i]? = some (.ow (oList τ) f)) (hN : X.N[i]? = some x := by rfl) (hv : Vis X.env.scope x := by first | exact Or.inl rfl | exact Or.inr (Or.inl rfl) | exact Or.inr (Or.inr rfl)) (hd : (x == ("__debug__" : Str)) = false := by decide)
    (hcd : (x == ("__classdict__" : Str)) = false := by decide) (hbase : attributeBase (.Name x px) "append" X.env (eval (.Name x px) X.env) = eval (.Name x px) X.env := by rfl)
    (hfew : ((backTo pos (starEach [e] X.env)).all (fun x => !x.1) && (backToKw pos (keywordEach [] X.env)).all (fun x => x.1.isSome)
      && decide ([e].length + ([] : List Keyword).length + (if ([] : List Keyword).isEmpty then 0 else 1) < 30)) = true := by rfl)
    (hline : (apos.endLine == pos.line) = true := by rfl) (hs : starEach [e] X.env = (false, eval e X.env) :: starEach [] X.env := by rfl) (hplain : (backTo pos (starEach [] X.env)).any (·.1) = false := by rfl) (hK : X.K = K := by rfl) :
    DX K X Δ (.Call (.Attribute (.Name x px) "append" apos) [e] [] pos) (tNone K) (ms ++ [i]) (c1 ++ [fun s => (f s).length < sizeLine]) (Δ1.set i (.ow (oList τ) fun s => f s ++ [fe s])) (fun _ => ()) (tBM K "list" rAppend (tVar i) (tCons ta tNil)) := by
  subst hK
  obtain ⟨d1, p, r⟩ := he
  refine ⟨d1.trans (diff_mut h), pe_bm PySem.F.plainAttrs_list PySem.F.slot_list_append PySem.F.type_list_append mt_append (pe_var hN hv hd hcd) (pa_cons p pa_nil hs) hbase hfew hline hs hplain, fun s F H σ hh sm hc Q q => ?_⟩
  obtain ⟨k1, k2, _⟩ := conj_app hc
  obtain ⟨p0, vs0, e1, _, e3, _⟩ := own_list hh h0
  have hl : tyV X.K "list" (.ref p0) H := .inl ⟨rfl, _, .inl (.inl e3)⟩
  refine ⟨.ref p0, e1, hl, r s F H σ hh sm k1 _ fun v F1 H1 g1 hh1 r1 => ?_⟩
  obtain ⟨p1, vs, f1, f2, f3, f4, f5⟩ := own_list hh1 h
  rw [e1] at f1; cases f1
  refine ⟨p0, vs, v, rfl, rfl, f3, by rw [f4.length]; exact k2, ?_⟩
  have g2 := gr_mut (i := i) (u' := .lst (vs ++ [v])) g1.fh f2 (by rw [f3]; exact fun z => nomatch z) e1
  refine q _ F1 _ ((g1.mono (msAt_l (m2 := [i]))).trans (g2.mono (msAt_r (m1 := ms)))) (hh1.mut h e1 ⟨_, rfl, paired_app f4 (.cons r1 .nil), ?_⟩) rfl
  rw [List.length_append]
  exact k2

def setI {α : Type} (xs : List α) (i : Int) (v : α) : List α := xs.set (if 0 ≤ i then i.toNat else (i + xs.length).toNat) v
/-- x[b] = e -/
theorem DS.store {f : S → List τ.α} {fe : S → τ.α} {fi : S → Int} {px p2 : Pos} (he : DX K X Δ e τ ms c1 Δ1 fe ta) (hb : DX K X Δ1 b (tInt K) [] c2 Δ1 fi tb) (hm : OwnAll Δ ms) (h : Δ1[i]? = some (.ow (oList τ) f)) (hN : X.N[i]? = some x := by rfl) (hv : Vis X.env.scope x := by first | exact Or.inl rfl | exact Or.inr (Or.inl rfl) | exact Or.inr (Or.inr rfl)) (hd : (x == ("__debug__" : Str)) = false := by decide)
    (hcd : (x == ("__classdict__" : Str)) = false := by decide) (ha : ∀ v, assign (.Subscript (.Name x px) b p2) X.env v = (do
      let ov ← holding [v] (eval (.Name x px) X.env)
      let iv ← holding [v, ov] (eval b X.env)
      standAt p2
      holding [v, ov, iv] (setItem ov iv v)
      release [v, ov, iv] []) := by intro _; rfl) (hs : swapsWithSole [.Subscript (.Name x px) b p2] e pos.line X.env = pure false := by rfl) (hw : swappedStores [.Subscript (.Name x px) b p2] e X.env = pure none := by rfl)
    (h1 : (assignEach [.Subscript (.Name x px) b p2] X.env).map (·.2) = [assign (.Subscript (.Name x px) b p2) X.env] := by rfl) :
    DS K X mus Δ (.Assign [.Subscript (.Name x px) b p2] e pos) (c1 ++ (c2 ++ [fun s => IxOk (f s) (fi s)])) (Δ1.set i (.ow (oList τ) fun s => setI (f s) (fi s) (fe s))) := by
  obtain ⟨d1, p, r⟩ := he
  obtain ⟨_, pb, rb⟩ := hb
  refine ⟨_, ps_asg p (pg_sub (pe_var hN hv hd hcd) pb set_list ha) hs hw h1, fun s F H σ hh sm hc D q => ?_⟩
  obtain ⟨k1, k2⟩ := conj_app hc
  obtain ⟨k2, k3, _⟩ := conj_app k2
  refine r s F H σ hh sm k1 _ fun v F1 H1 g1 hh1 r1 => ?_
  obtain ⟨pp, vs, f1, f2, f3, f4, f5⟩ := own_list hh1 h
  refine ⟨.ref pp, f1, rb s F1 H1 σ hh1 g1.fh k2 _ fun iv F2 H2 g2 hh2 r2 => ?_⟩
  rw [msAt_nil] at g2
  obtain ⟨pp', vs', f1', f2', f3', f4', f5'⟩ := own_list hh2 h
  rw [f1] at f1'; cases f1'
  obtain ⟨j, hj, _⟩ := ix_at (d := fe s) k3
  have hj' : j = (if 0 ≤ fi s then (fi s).toNat else (fi s + (f s).length).toNat) := by
    unfold ixN at hj
    split
    · rename_i h0
      rw [if_pos h0] at hj
      split at hj
      · exact (Option.some.inj hj).symm
      · cases hj
    · rename_i h0
      rw [if_neg h0] at hj
      split at hj
      · exact (Option.some.inj hj).symm
      · cases hj
  refine ⟨pp, vs', fi s, j, rfl, r2, f3', by rw [f4'.length]; exact hj, ?_⟩
  have gs : GrS mus Δ σ Δ1 σ F H F1 H1 := gs0 hm d1 hh g1
  have gs2 : GrS mus Δ1 σ Δ1 σ F1 H1 F2 H2 := gs0 (ms := []) trivial Diff.refl hh1 (by rw [msAt_nil]; exact g2)
  have gs3 : GrS mus Δ1 σ (Δ1.set i (.ow (oList τ) fun s => setI (f s) (fi s) (fe s))) σ F2 H2 F2 (upd H2 pp (.lst (vs'.set j v))) := gs0 (ms := [i]) ⟨⟨_, _, h⟩, trivial⟩ (diff_mut h) hh2 (gr_mut g2.fh f2' (by rw [f3']; exact fun z => nomatch z) f1)
  refine q σ F2 _ ((gs.trans gs2).trans gs3) (hh2.mut h f1 ⟨_, rfl, ?_, ?_⟩)
  · unfold setI
    rw [hj']
    exact paired_set (τ.mono g2.ff r1) _ f4'
  · unfold setI
    rw [List.length_set]
    exact f5'
/-- x += e, x an own list, e a new one -/
theorem DS.augL {f fe : S → List τ.α} {px : Pos} (he : DO K X Δ e (oList τ) [] c1 Δ fe ta) (h : Δ[i]? = some (.ow (oList τ) f)) (hN : X.N.Nodup) (hi : X.N[i]? = some x) (hx : Loc X.env.scope x) (hf : X.fn x = true ∨ X.env.scope.names.lookup x = some .local := by first | exact .inl rfl | exact .inr rfl | assumption) : DS K X mus Δ (.AugAssign (.Name x px) .Add e pos) (c1 ++ [fun s => (f s).length + (fe s).length ≤ sizeLine]) (Δ.set i (.ow (oList τ) fun s => f s ++ fe s)) := by
  obtain ⟨d1, p, r⟩ := he
  refine ⟨_, ps_aug hN hi hx p (ti := rExt2) (fun pins s σ H x y v u Q I rx ry h => iop_ext pins s σ H x y v u Q I rx ry h) hf, fun s F H σ hh sm hc D q => ?_⟩
  obtain ⟨k1, k2, _⟩ := conj_app hc
  obtain ⟨p0, vs, e1, e2, e3, e4, e5⟩ := own_list hh h
  refine ⟨.ref p0, e1, r s F H σ hh sm k1 _ fun p1 u F1 H1 g1 hh1 n1 n2 n3 ⟨vs1, w1, w2, w3⟩ => ?_⟩
  subst w1
  rw [msAt_nil] at g1
  have e3' : H1 p0 = some (.lst vs) := g1.same _ _ e3
  refine ⟨p0, p1, vs, vs1, rfl, rfl, e3', n3, by rw [e4.length, w2.length]; exact k2, ?_⟩
  have eσ : σ.set i (some (.ref p0)) = σ := by
    apply List.ext_getElem?
    intro j
    by_cases hj : i = j
    · subst hj
      rw [List.getElem?_set_self (by rw [hh.len]; exact (List.getElem?_eq_some_iff.mp h).1), e1]
    · rw [List.getElem?_set_ne hj]
  show D.nx (σ.set i (some (.ref p0))) _
  rw [eσ]
  have f2 : F1 p0 = none := by
    obtain ⟨_, _, z1, z2, _⟩ := own_list hh1 h
    rw [e1] at z1; cases z1
    exact z2
  have gs : GrS mus Δ σ Δ σ F H F1 H1 := gs0 (ms := []) trivial Diff.refl hh (by rw [msAt_nil]; exact g1)
  have gs3 : GrS mus Δ σ (Δ.set i (.ow (oList τ) fun s => f s ++ fe s)) σ F1 H1 F1 (upd H1 p0 (.lst (vs ++ vs1))) := gs0 (ms := [i]) ⟨⟨_, _, h⟩, trivial⟩ (diff_mut h) hh1 (gr_mut g1.fh f2 (by rw [e3']; exact fun z => nomatch z) e1)
  refine q σ F1 _ (gs.trans gs3) (hh1.mut h e1 ⟨_, rfl, paired_app (paired_mono (fun a b r => τ.mono g1.ff r) e4) w2, ?_⟩)
  rw [List.length_append]
  exact k2

/-! #### calls of defs -/
/-- the arguments are the parameters' -/
inductive Ar {K : PySem.W.Frag} {S : Type} (Δ : Ctx K S) : List (AK K S) → (ps : List (PK K)) → (S → HP ps) → Prop
  | nil : Ar Δ [] [] (fun _ => ())
  | fz {τ : Ty K} {h : S → τ.α} {as : List (AK K S)} {ps : List (PK K)} {g : S → HP ps} : Ar Δ as ps g → Ar Δ (.fz τ h :: as) (.fz τ :: ps) (fun s => (h s, g s))
  | mu {j : Nat} {ω : OTy K} {f : S → ω.τ.α} {as : List (AK K S)} {ps : List (PK K)} {g : S → HP ps} : Δ[j]? = some (.ow ω f) → Ar Δ as ps g → Ar Δ (.mu j :: as) (.mu ω :: ps) (fun s => (f s, g s))
/-- the slots lent -/
def lent {K : PySem.W.Frag} {S : Type} : List (AK K S) → List Nat
  | [] => []
  | .fz _ _ :: as => lent as
  | .mu j :: as => j :: lent as
/-- behind the call: the lent slots hold what the callee says -/
inductive Up {K : PySem.W.Frag} {S : Type} : (Δ : Ctx K S) → List (AK K S) → (ps : List (PK K)) → (S → HM ps) → Ctx K S → Prop
  | nil {Δ : Ctx K S} {r : S → HM []} : Up Δ [] [] r Δ
  | fz {Δ Δ1 : Ctx K S} {τ σ : Ty K} {h : S → τ.α} {as : List (AK K S)} {ps : List (PK K)} {r : S → HM ps} : Up Δ as ps r Δ1 → Up Δ (.fz τ h :: as) (.fz σ :: ps) r Δ1
  | mu {Δ Δ1 : Ctx K S} {j : Nat} {ω : OTy K} {as : List (AK K S)} {ps : List (PK K)} {r : S → HM (.mu ω :: ps)} : Up (Δ.set j (.ow ω fun s => (r s).1)) as ps (fun s => (r s).2) Δ1 → Up Δ (.mu j :: as) (.mu ω :: ps) r Δ1
/-- a def's promise over data -/
def SpOf {R : Type} (fm : Fm K R) (p : HP fm.ps → Prop) (f : HP fm.ps → R) : Sp := fun vs H Q _ => ∃ (F : Hp) (s : HP fm.ps), Holds (ctx0 fm.ps) s F H (vs.map some) ∧ Same F H ∧ p s ∧
  ∀ v F1 H1, Gr (MsAt (musOf 0 fm.ps) (vs.map some)) F H F1 H1 → RetOk (fun q => H q = none) F1 H1 fm.ret v (fm.res (f s)) → MuOk F1 H1 (vs.map some) 0 fm.ps (fm.mv (f s)) → Q v H1
theorem ctx0_length : ∀ ps : List (PK K), (ctx0 ps).length = ps.length
  | [] => rfl
  | .fz τ :: ps => by show (List.map _ (ctx0 ps)).length + 1 = _; rw [List.length_map, ctx0_length ps]; rfl
  | .mu τ :: ps => by show (List.map _ (ctx0 ps)).length + 1 = _; rw [List.length_map, ctx0_length ps]; rfl
theorem SpOf.len {R : Type} {fm : Fm K R} {p : HP fm.ps → Prop} {f : HP fm.ps → R} (vs : List V) (H : Hp) (Q : VK) (E : XK) (h : SpOf fm p f vs H Q E) : vs.length = fm.ps.length := by
  obtain ⟨F, s, h, _⟩ := h
  have := h.len
  rw [List.length_map, ctx0_length] at this
  exact this

theorem ctx0_own : ∀ {ps : List (PK K)} {k : Nat} (i : Nat) (ω : OTy K) (f : HP ps → ω.τ.α), (ctx0 ps)[i]? = some (.ow ω f) → k + i ∈ musOf k ps
  | [], _, _, _, _, h => by simp [ctx0] at h
  | .fz τ :: ps, k, 0, _, _, h => by simp [ctx0] at h
  | .fz τ :: ps, k, i + 1, ω, f, h => by
    have h' : ((ctx0 ps).map (Slot.comap fun s : HP (.fz τ :: ps) => s.2))[i]? = some (.ow ω f) := by simpa [ctx0] using h
    rw [List.getElem?_map] at h'
    obtain ⟨sl, e, c⟩ := Option.map_eq_some_iff.mp h'
    cases sl with
    | dead => cases c
    | fz _ _ => cases c
    | ow ω' f' =>
      have := ctx0_own (k := k + 1) i ω' f' e
      show k + (i + 1) ∈ musOf (k + 1) ps
      rw [show k + (i + 1) = k + 1 + i by omega]
      exact this
  | .mu τ :: ps, k, 0, _, _, h => List.mem_cons_self ..
  | .mu τ :: ps, k, i + 1, ω, f, h => by
    have h' : ((ctx0 ps).map (Slot.comap fun s : HP (.mu τ :: ps) => s.2))[i]? = some (.ow ω f) := by simpa [ctx0] using h
    rw [List.getElem?_map] at h'
    obtain ⟨sl, e, c⟩ := Option.map_eq_some_iff.mp h'
    cases sl with
    | dead => cases c
    | fz _ _ => cases c
    | ow ω' f' =>
      have := ctx0_own (k := k + 1) i ω' f' e
      refine List.mem_cons_of_mem _ ?_
      rw [show k + (i + 1) = k + 1 + i by omega]
      exact this
theorem musOf_ctx0 : ∀ {ps : List (PK K)} {k : Nat} (j : Nat), j ∈ musOf k ps → k ≤ j ∧ ∃ (ω : OTy K) (f : HP ps → ω.τ.α), (ctx0 ps)[j - k]? = some (.ow ω f)
  | [], _, _, h => nomatch h
  | .fz τ :: ps, k, j, h => by
    obtain ⟨h1, ω, f, e⟩ := musOf_ctx0 (ps := ps) (k := k + 1) j h
    refine ⟨by omega, ω, fun s => f s.2, ?_⟩
    rw [show j - k = (j - (k + 1)) + 1 by omega]
    show ((ctx0 ps).map (Slot.comap fun s : HP (.fz τ :: ps) => s.2))[j - (k + 1)]? = _
    rw [List.getElem?_map, e]
    rfl
  | .mu τ :: ps, k, j, h => by
    rcases List.mem_cons.mp h with e | h
    · subst e
      exact ⟨Nat.le_refl _, τ, fun s => s.1, by rw [Nat.sub_self]; rfl⟩
    · obtain ⟨h1, ω, f, e⟩ := musOf_ctx0 (ps := ps) (k := k + 1) j h
      refine ⟨by omega, ω, fun s => f s.2, ?_⟩
      rw [show j - k = (j - (k + 1)) + 1 by omega]
      show ((ctx0 ps).map (Slot.comap fun s : HP (.mu τ :: ps) => s.2))[j - (k + 1)]? = _
      rw [List.getElem?_map, e]
      rfl
def deads (K : PySem.W.Frag) (S : Type) (n : Nat) : Ctx K S := List.replicate n .dead
/-- the context at a def's start -/
def ctxN (n : Nat) (ps : List (PK K)) : Ctx K (HP ps) := ctx0 ps ++ deads K (HP ps) (n - ps.length)
theorem holds_start {ps : List (PK K)} {s : HP ps} {F H : Hp} {vs : List V} {N : List Str} (hh : Holds (ctx0 ps) s F H (vs.map some)) (hn : ps.length ≤ N.length) : Holds (ctxN N.length ps) s F H (L2.start N vs) := by
  have hl : vs.length = ps.length := by have := hh.len; rwa [List.length_map, ctx0_length] at this
  have lm : (vs.map some).length = (ctx0 ps).length := hh.len
  unfold ctxN L2.start deads
  refine ⟨?_, fun i sl o e1 e2 => ?_, fun i j ω ω' f f' p n e1 e2 e3 => ?_⟩
  · rw [List.length_append, List.length_append, lm, List.length_replicate, List.length_replicate, hl]
  · by_cases hi : i < (ctx0 ps).length
    · rw [List.getElem?_append_left hi] at e1
      rw [List.getElem?_append_left (by rw [lm]; exact hi)] at e2
      exact hh.at_ i sl o e1 e2
    · rw [List.getElem?_append_right (by omega), List.getElem?_replicate] at e1
      split at e1
      · cases e1; trivial
      · cases e1
  · have lt : ∀ {i : Nat} {ω : OTy K} {f : HP ps → ω.τ.α}, (ctx0 ps ++ List.replicate (N.length - ps.length) (Slot.dead : Slot K (HP ps)))[i]? = some (.ow ω f) → i < (ctx0 ps).length ∧ (ctx0 ps)[i]? = some (.ow ω f) := fun {i ω f} e => by
      by_cases hi : i < (ctx0 ps).length
      · rw [List.getElem?_append_left hi] at e
        exact ⟨hi, e⟩
      · rw [List.getElem?_append_right (by omega), List.getElem?_replicate] at e
        split at e <;> cases e
    obtain ⟨l1, k1⟩ := lt e1
    obtain ⟨l2, k2⟩ := lt e2
    rw [List.getElem?_append_left (by rw [lm]; exact l1)] at e3
    rw [List.getElem?_append_left (by rw [lm]; exact l2)]
    exact hh.sep i j ω ω' f f' p n k1 k2 e3
theorem start_at {N : List Str} {vs : List V} {j : Nat} (h : j < vs.length) : (L2.start N vs)[j]? = (vs.map some)[j]? := by
  unfold L2.start
  rw [List.getElem?_append_left (by rw [List.length_map]; exact h)]
/-- THE RULE for a def: its body over data -/
theorem def_ok {P : Program} {w : World} {mg : Str → Option Value} {base : Heap} {y qual : Str} {st : Stmt} {f : Addr} {fd : FuncData} {N ps : List Str} {k : Nat} {R : Type} {fm : Fm K R} {p : HP fm.ps → Prop} {fv : HP fm.ps → R} (F : Fun K y qual st f fd) (Sc : FnScope N ps (defScope st)) (hl : fm.ps.length = ps.length) (hn : ps.length ≤ N.length)
    (hb : ∀ (cdv : Value) (A : Around) (outer : List Env) (s : Shared) (H : Hp) (E : XK), RoomG k (A.deeper (envOfC qual (defScope st) s.heap.objs.size f cdv)) →
      ∃ cs, (∀ s, p s → Conj cs s) ∧ DB K (cxOf CX0 P w K mg base N qual (defScope st) f cdv A outer s H E).nox fm (ctxN N.length fm.ps) (defBody st) cs fv) : FnG P w K mg base CX0 (k + 1) f fd ps (SpOf fm p fv) := by
  refine fn_g F Sc (fun vs H Q E h => (SpOf.len vs H Q E h).trans hl) fun cdv A outer s H vs Q E hr h => ?_
  obtain ⟨F0, d, hh, sm, hp, q⟩ := h
  obtain ⟨cs, hcs, t, ht, ht2⟩ := hb cdv A outer s H E hr
  refine ⟨t, ht.nox, ht2 d F0 H (L2.start N vs) (holds_start hh (by omega)) sm (hcs d hp) _ fun v F1 H1 g ro mo => ?_⟩
  have lv : vs.length = fm.ps.length := by have := hh.len; rwa [List.length_map, ctx0_length] at this
  have mlt : ∀ j ∈ musOf 0 fm.ps, j < vs.length := fun j hj => by
    obtain ⟨_, ω, f, e⟩ := musOf_ctx0 (k := 0) j hj
    have := (List.getElem?_eq_some_iff.mp e).1
    rw [ctx0_length] at this
    omega
  have own : ∀ a, Own (ctxN N.length fm.ps) (L2.start N vs) a → MsAt (musOf 0 fm.ps) (vs.map some) a := fun a ⟨i, ω, f, e1, e2⟩ => by
    have hi : i < (ctx0 fm.ps).length ∧ (ctx0 fm.ps)[i]? = some (.ow ω f) := by
      unfold ctxN deads at e1
      by_cases hi : i < (ctx0 fm.ps).length
      · rw [List.getElem?_append_left hi] at e1
        exact ⟨hi, e1⟩
      · rw [List.getElem?_append_right (by omega), List.getElem?_replicate] at e1
        split at e1 <;> cases e1
    have hm := ctx0_own (k := 0) i ω f hi.2
    rw [Nat.zero_add] at hm
    exact ⟨i, hm, by rw [← start_at (mlt i hm)]; exact e2⟩
  refine q v F1 H1 ⟨g.ff, g.fh, fun a o e => ?_, fun a o e n => g.keep a o e fun z => n (own a z), g.dom⟩ (ro.dom fun b hb => ?_) (mo.congr fun j hj => start_at (mlt j hj))
  · rcases g.fresh a o e with z | z | z
    · exact .inl z
    · exact .inr z
    · -- an own parameter is never frozen: it is told by mo
      obtain ⟨j, hj, e2⟩ := own a z
      have : ∀ {ps : List (PK K)} {k : Nat} {x : HM ps} {σ : L2.St}, MuOk F1 H1 σ k ps x → ∀ j ∈ musOf k ps, ∃ p u, σ[j]? = some (some (.ref p)) ∧ F1 p = none ∧ H1 p = some u := by
        intro ps
        induction ps with
        | nil => intro k x σ _ j h; cases h
        | cons pk ps ih =>
          intro k x σ m j h
          cases pk with
          | fz τ => exact ih m j h
          | mu ω =>
            obtain ⟨⟨p, u, w1, w2, w3, _⟩, t⟩ := m
            rcases List.mem_cons.mp h with e | h
            · subst e; exact ⟨p, u, w1, w2, w3⟩
            · exact ih t j h
      obtain ⟨p, u, w1, w2, _⟩ := this mo j hj
      rw [start_at (mlt j hj), e2] at w1
      cases w1
      rw [w2] at e
      cases e
  · rcases hb.1 with z | z
    · exact z
    · obtain ⟨j, hj, e2⟩ := own b z
      exact absurd (by rw [start_at (mlt j hj)]; exact e2) (hb.2 j hj)

/-- what the arguments make the callee's parameters -/
theorem Ar.holds {s : S} {F H : Hp} {σ : L2.St} (hh : Holds Δ s F H σ) (sm : Same F H) {as : List (AK K S)} {ps : List (PK K)} {g : S → HP ps} (ha : Ar Δ as ps g) : ∀ {vs : List V}, AkAll F σ s as vs → (lent as).Nodup → Holds (ctx0 ps) (g s) F H (vs.map some) ∧ ∀ (k : Nat) (ω : OTy K) (f : HP ps → ω.τ.α) (a : Addr), (ctx0 ps)[k]? = some (.ow ω f) → (vs.map some)[k]? = some (some (.ref a)) → ∃ j ∈ lent as, σ[j]? = some (some (.ref a)) ∧ ∃ (ω' : OTy K) (f' : S → ω'.τ.α), Δ[j]? = some (.ow ω' f') := by
  induction ha with
  | nil =>
    intro vs r _
    rw [show vs = [] from r]
    exact ⟨⟨rfl, fun i sl o e => by simp [ctx0] at e, fun i j ω ω' f f' p n e => by simp [ctx0] at e⟩, fun k ω f a e => by simp [ctx0] at e⟩
  | @fz τ h as ps g t ih =>
    rintro vs ⟨v, r, rfl, rv, rr⟩ nd
    obtain ⟨ih1, ih2⟩ := ih rr nd
    have up : ∀ {k : Nat} {ω : OTy K} {f : HP (.fz τ :: ps) → ω.τ.α}, (ctx0 (.fz τ :: ps))[k]? = some (.ow ω f) → ∃ k', k = k' + 1 ∧ ∃ f', (ctx0 ps)[k']? = some (.ow ω f') := fun {k ω f} e => by
      cases k with
      | zero => simp [ctx0] at e
      | succ k =>
        have e' : ((ctx0 ps).map (Slot.comap fun s : HP (.fz τ :: ps) => s.2))[k]? = some (.ow ω f) := by simpa [ctx0] using e
        rw [List.getElem?_map] at e'
        obtain ⟨sl, q1, q2⟩ := Option.map_eq_some_iff.mp e'
        cases sl with
        | dead => cases q2
        | fz _ _ => cases q2
        | ow ω' f' => cases q2; exact ⟨k, rfl, f', q1⟩
    refine ⟨⟨?_, fun i sl o e1 e2 => ?_, fun i j ω ω' f f' p n e1 e2 e3 => ?_⟩, fun k ω f a e1 e2 => ?_⟩
    · have := ih1.len
      rw [List.length_map, ctx0_length] at this
      rw [ctx0_length, List.length_map, List.length_cons, List.length_cons, this]
    · cases i with
      | zero =>
        have e1' : (Slot.fz τ fun s : HP (.fz τ :: ps) => s.1) = sl := by simpa [ctx0] using e1
        have e2' : some v = o := by simpa using e2
        subst e1' e2'
        exact ⟨v, rfl, rv⟩
      | succ i =>
        have e1' : ((ctx0 ps).map (Slot.comap fun s : HP (.fz τ :: ps) => s.2))[i]? = some sl := by simpa [ctx0] using e1
        rw [List.getElem?_map] at e1'
        obtain ⟨sl', q1, q2⟩ := Option.map_eq_some_iff.mp e1'
        have := ih1.at_ i sl' o q1 (by simpa using e2)
        subst q2
        cases sl' <;> exact this
    · obtain ⟨k1, rfl, f1, q1⟩ := up e1
      obtain ⟨k2, rfl, f2, q2⟩ := up e2
      exact ih1.sep k1 k2 ω ω' f1 f2 p (by omega) q1 q2 (by simpa using e3)
    · obtain ⟨k1, rfl, f1, q1⟩ := up e1
      exact ih2 k1 ω f1 a q1 (by simpa using e2)
  | @mu j ω f as ps g e0 t ih =>
    rintro vs ⟨v, r, rfl, rv, rr⟩ nd
    have nd' : j ∉ lent as ∧ (lent as).Nodup := List.nodup_cons.mp nd
    obtain ⟨ih1, ih2⟩ := ih rr nd'.2
    obtain ⟨p0, u0, w1, w2, w3, w4⟩ := own_at hh e0
    have ev : v = .ref p0 := by
      have rv' : σ[j]? = some (some v) := rv
      rw [w1] at rv'
      cases rv'
      rfl
    subst ev
    have up : ∀ {k : Nat} {ω1 : OTy K} {f1 : HP (.mu ω :: ps) → ω1.τ.α}, (ctx0 (.mu ω :: ps))[k + 1]? = some (.ow ω1 f1) → ∃ f', (ctx0 ps)[k]? = some (.ow ω1 f') := fun {k ω1 f1} e => by
      have e' : ((ctx0 ps).map (Slot.comap fun s : HP (.mu ω :: ps) => s.2))[k]? = some (.ow ω1 f1) := by simpa [ctx0] using e
      rw [List.getElem?_map] at e'
      obtain ⟨sl, q1, q2⟩ := Option.map_eq_some_iff.mp e'
      cases sl with
      | dead => cases q2
      | fz _ _ => cases q2
      | ow ω' f' => cases q2; exact ⟨f', q1⟩
    have far : ∀ {k : Nat} {ω1 : OTy K} {f1 : HP ps → ω1.τ.α}, (ctx0 ps)[k]? = some (.ow ω1 f1) → (r.map some)[k]? ≠ some (some (.ref p0)) := fun {k ω1 f1} e z => by
      obtain ⟨j', hj', e1, ω2, f2, e2⟩ := ih2 k ω1 f1 p0 e z
      exact hh.sep j j' ω ω2 f f2 p0 (fun q => nd'.1 (q ▸ hj')) e0 e2 w1 e1
    refine ⟨⟨?_, fun i sl o e1 e2 => ?_, fun i k ω1 ω2 f1 f2 p n e1 e2 e3 => ?_⟩, fun k ω1 f1 a e1 e2 => ?_⟩
    · have := ih1.len
      rw [List.length_map, ctx0_length] at this
      rw [ctx0_length, List.length_map, List.length_cons, List.length_cons, this]
    · cases i with
      | zero =>
        have e1' : (Slot.ow ω fun s : HP (.mu ω :: ps) => s.1) = sl := by simpa [ctx0] using e1
        have e2' : some (V.ref p0) = o := by simpa using e2
        subst e1' e2'
        exact ⟨p0, u0, rfl, w2, w3, w4⟩
      | succ i =>
        have e1' : ((ctx0 ps).map (Slot.comap fun s : HP (.mu ω :: ps) => s.2))[i]? = some sl := by simpa [ctx0] using e1
        rw [List.getElem?_map] at e1'
        obtain ⟨sl', q1, q2⟩ := Option.map_eq_some_iff.mp e1'
        have := ih1.at_ i sl' o q1 (by simpa using e2)
        subst q2
        cases sl' <;> exact this
    · cases i with
      | zero =>
        have e3' : p0 = p := by simpa using e3
        subst e3'
        cases k with
        | zero => exact absurd rfl n
        | succ k =>
          obtain ⟨f', q⟩ := up e2
          simpa using far q
      | succ i =>
        obtain ⟨f', q⟩ := up e1
        cases k with
        | zero =>
          intro z
          have z' : p0 = p := by simpa using z
          subst z'
          exact far q (by simpa using e3)
        | succ k =>
          obtain ⟨f'', q2⟩ := up e2
          exact ih1.sep i k ω1 ω2 f' f'' p (by omega) q q2 (by simpa using e3)
    · cases k with
      | zero =>
        have e2' : p0 = a := by simpa using e2
        subst e2'
        exact ⟨j, List.mem_cons_self .., w1, ω, f, e0⟩
      | succ k =>
        obtain ⟨f', q⟩ := up e1
        obtain ⟨j', hj', r1⟩ := ih2 k ω1 f' a q (by simpa using e2)
        exact ⟨j', List.mem_cons_of_mem _ hj', r1⟩
theorem Ar.muts {as : List (AK K S)} {ps : List (PK K)} {g : S → HP ps} (ha : Ar Δ as ps g) : ∀ (k : Nat) {vs : List V} {F : Hp} {σ : L2.St} {s : S} {us : List (Option V)}, us.length = k → AkAll F σ s as vs → ∀ j ∈ musOf k ps, ∀ a, (us ++ vs.map some)[j]? = some (some (.ref a)) → MsAt (lent as) σ a := by
  induction ha with
  | nil => intro k vs F σ s us _ _ j h; cases h
  | @fz τ h as ps g t ih =>
    rintro k vs F σ s us hu ⟨v, r, rfl, rv, rr⟩ j hj a e
    exact ih (k + 1) (us := us ++ [some v]) (by rw [List.length_append, hu]; rfl) rr j hj a (by simpa using e)
  | @mu j0 ω f as ps g e0 t ih =>
    rintro k vs F σ s us hu ⟨v, r, rfl, rv, rr⟩ j hj a e
    rcases List.mem_cons.mp hj with z | z
    · subst z
      rw [List.getElem?_append_right (by omega), hu, Nat.sub_self] at e
      have e' : v = .ref a := by simpa using e
      subst e'
      exact ⟨j0, List.mem_cons_self .., rv⟩
    · obtain ⟨i, h1, h2⟩ := ih (k + 1) (us := us ++ [some v]) (by rw [List.length_append, hu]; rfl) rr j z a (by simpa using e)
      exact ⟨i, List.mem_cons_of_mem _ h1, h2⟩
/-- behind the call, from what the callee says of the lent objects -/
theorem Up.holds {as : List (AK K S)} {ps : List (PK K)} {r : S → HM ps} {s : S} {F1 H1 : Hp} {σ : L2.St} {Δ Δ2 : Ctx K S} (up : Up Δ as ps r Δ2) : ∀ {k : Nat} {vs : List V} {us : List (Option V)} {F : Hp}, us.length = k → AkAll F σ s as vs → (lent as).Nodup → MuOk F1 H1 (us ++ vs.map some) k ps (r s) →
    (∀ j ∈ lent as, ∃ (ω : OTy K) (f : S → ω.τ.α), Δ[j]? = some (.ow ω f)) → Δ.length = σ.length →
    (∀ i sl o, i ∉ lent as → Δ[i]? = some sl → σ[i]? = some o → SlotOk F1 H1 s o sl) →
    (∀ (i j : Nat) (ω ω' : OTy K) (f : S → ω.τ.α) (f' : S → ω'.τ.α) (p : Addr), i ≠ j → Δ[i]? = some (.ow ω f) → Δ[j]? = some (.ow ω' f') → σ[i]? = some (some (.ref p)) → σ[j]? ≠ some (some (.ref p))) →
    Holds Δ2 s F1 H1 σ ∧ Diff (lent as) Δ Δ2 := by
  induction up with
  | nil =>
    intro k vs us F _ _ _ _ _ hl h sp
    exact ⟨⟨hl.symm, fun i sl o e1 e2 => h i sl o (fun z => nomatch z) e1 e2, sp⟩, Diff.refl⟩
  | fz t ih =>
    rintro k vs us F hu ⟨v, r, rfl, rv, rr⟩ nd mo ow hl h sp
    exact ih (k := k + 1) (us := us ++ [some v]) (by rw [List.length_append, hu]; rfl) rr nd (by rw [List.append_assoc]; exact mo) ow hl h sp
  | @mu Δ Δ1 j ω as ps r t ih =>
    rintro k vs us F hu ⟨v, w, rfl, rv, rr⟩ nd mo ow hl h sp
    have nd' : j ∉ lent as ∧ (lent as).Nodup := List.nodup_cons.mp nd
    obtain ⟨⟨p, u, e1, e2, e3, e4⟩, mo'⟩ := mo
    rw [List.getElem?_append_right (by omega), hu, Nat.sub_self] at e1
    have ev : v = .ref p := by simpa using e1
    subst ev
    obtain ⟨ω0, f0, h0⟩ := ow j (List.mem_cons_self ..)
    have hj : j < Δ.length := (List.getElem?_eq_some_iff.mp h0).1
    have back : ∀ {i : Nat} {ω1 : OTy K} {f1 : S → ω1.τ.α}, (Δ.set j (.ow ω fun s => (r s).1))[i]? = some (.ow ω1 f1) → ∃ (ω' : OTy K) (f' : S → ω'.τ.α), Δ[i]? = some (.ow ω' f') := fun {i ω1 f1} e => by
      rcases get_set1 e with ⟨rfl, _, _⟩ | ⟨_, e⟩
      · exact ⟨_, _, h0⟩
      · exact ⟨_, _, e⟩
    obtain ⟨r1, r2⟩ := ih (k := k + 1) (us := us ++ [some (.ref p)]) (by rw [List.length_append, hu]; rfl) rr nd'.2 (by rw [List.append_assoc]; exact mo') (fun i hi => by
        obtain ⟨ω', f', e⟩ := ow i (List.mem_cons_of_mem _ hi)
        exact ⟨ω', f', by rw [List.getElem?_set_ne fun (z : j = i) => nd'.1 (z ▸ hi)]; exact e⟩)
      (by rw [List.length_set]; exact hl) (fun i sl o ni e5 e6 => by
        rcases get_set1 e5 with ⟨rfl, rfl, _⟩ | ⟨n, e5⟩
        · have rv' : σ[j]? = some (some (.ref p)) := rv
          rw [rv'] at e6; cases e6
          exact ⟨p, u, rfl, e2, e3, e4⟩
        · exact h i sl o (fun z => (List.mem_cons.mp z).elim (fun q => n q.symm) ni) e5 e6)
      (fun i k ω1 ω2 f1 f2 q ne e5 e6 e7 => by
        obtain ⟨_, _, q1⟩ := back e5
        obtain ⟨_, _, q2⟩ := back e6
        exact sp i k _ _ _ _ q ne q1 q2 e7)
    refine ⟨r1, ?_⟩
    have d0 : Diff [j] Δ (Δ.set j (.ow ω fun s => (r s).1)) := ⟨List.length_set .., fun i n => List.getElem?_set_ne fun z => n (by rw [z]; exact List.mem_singleton.mpr rfl), fun i ω1 f1 e => back e⟩
    exact d0.trans r2

/-- f(e, ..) -/
theorem DX.call {k : Nat} {f : Addr} {fd : FuncData} {ps : List Str} {R' : Type} {fm : Fm K R'} {p : HP fm.ps → Prop} {fv : HP fm.ps → R'} {as : List (AK K S)} {g : S → HP fm.ps} {px : Pos} {t : TA} (G : FnG X.prog X.w X.K X.mg X.base CX0 k f fd ps (SpOf fm p fv)) (hr : RoomG k X.A) (hg : Gl X x) (hm : X.mg x = some (.ref f)) (hk : PySem.W.keepIn X.K (.ref f) = true) (hb : Binds X.K fd ps [])
    (ha : DA K X Δ (e :: es) m1 c1 Δ1 as t) (har : Ar Δ1 as fm.ps g) (hup : Up Δ1 as fm.ps (fun s => fm.mv (fv (g s))) Δ2) (hnd : (lent as).Nodup) (hret : fm.ret = .fz τ) {fr : S → τ.α} (hf : ∀ s, HEq (fm.res (fv (g s))) (fr s)) (how : OwnAll Δ1 (lent as)) (hdb : (x == ("__debug__" : Str)) = false := by decide) (he : starEach (e :: es) X.env = (false, eval e X.env) :: starEach es X.env := by rfl) (hpl : (backTo pos (starEach es X.env)).any (·.1) = false := by rfl) :
    DX K X Δ (.Call (.Name x px) (e :: es) [] pos) τ (m1 ++ lent as) (c1 ++ [fun s => p (g s)]) Δ2 fr (tCall (SpOf fm p fv) [] E0 t) := by
  obtain ⟨d1, pa, ra⟩ := ha
  have dd : Diff (lent as) Δ1 Δ2 := by
    clear ra
    have : ∀ {ps : List (PK K)} {r : S → HM ps} {as : List (AK K S)} {Δ Δ2 : Ctx K S}, Up Δ as ps r Δ2 → OwnAll Δ (lent as) → Diff (lent as) Δ Δ2 := by
      intro ps r as Δ Δ2 u
      induction u with
      | nil => intro _; exact Diff.refl
      | fz _ ih => exact ih
      | @mu Δ Δ1 j ω as ps r t ih =>
        rintro ⟨⟨ω0, f0, h0⟩, ow⟩
        have back : ∀ {i : Nat} {ω1 : OTy K} {f1 : S → ω1.τ.α}, Δ[i]? = some (.ow ω1 f1) → ∃ (ω' : OTy K) (f' : S → ω'.τ.α), (Δ.set j (.ow ω fun s => (r s).1))[i]? = some (.ow ω' f') := fun {i ω1 f1} e => by
          by_cases z : j = i
          · subst z
            exact ⟨_, _, List.getElem?_set_self (List.getElem?_eq_some_iff.mp e).1⟩
          · exact ⟨_, _, by rw [List.getElem?_set_ne z]; exact e⟩
        have ow' : ∀ {l : List Nat}, OwnAll Δ l → OwnAll (Δ.set j (.ow ω fun s => (r s).1)) l := by
          intro l
          induction l with
          | nil => intro _; trivial
          | cons a l ih2 =>
            rintro ⟨⟨_, _, w⟩, w2⟩
            exact ⟨back w, ih2 w2⟩
        have d0 : Diff [j] Δ (Δ.set j (.ow ω fun s => (r s).1)) := ⟨List.length_set .., fun i n => List.getElem?_set_ne fun z => n (by rw [z]; exact List.mem_singleton.mpr rfl), fun i ω1 f1 e => by
          rcases get_set1 e with ⟨rfl, _, _⟩ | ⟨_, e⟩
          · exact ⟨_, _, h0⟩
          · exact ⟨_, _, e⟩⟩
        exact d0.trans (ih (ow' ow))
    exact this hup how
  refine ⟨d1.trans dd, pe_callg G hr hg hm hk hb pass0 pa hdb he hpl, fun s F H σ hh sm hc Q q => ?_⟩
  obtain ⟨k1, k2, _⟩ := conj_app hc
  refine ra s F H σ hh sm k1 _ fun vs F1 H1 g1 hh1 r1 => ?_
  show SpOf fm p fv (vs ++ []) H1 Q E0
  rw [List.append_nil]
  obtain ⟨w1, w2⟩ := har.holds hh1 g1.fh r1 hnd
  refine ⟨F1, g s, w1, g1.fh, k2, fun v F2 H2 g2 ro mo => ?_⟩
  have g2' : Gr (MsAt (lent as) σ) F1 H1 F2 H2 := g2.mono fun a ⟨j, hj, e⟩ => har.muts 0 (us := []) rfl r1 j hj a e
  have hh2 := (hup.holds (k := 0) (us := []) rfl r1 hnd mo how.all hh1.len.symm (fun i sl o ni e1 e2 => ?_) hh1.sep).1
  · refine q v F2 H2 ((g1.mono (msAt_l (m2 := lent as))).trans (g2'.mono (msAt_r (m1 := m1)))) hh2 ?_
    have := hf s
    revert this ro
    generalize fm.res (fv (g s)) = z
    revert z
    rw [hret]
    intro z ro hz
    rw [← eq_of_heq hz]
    exact ro
  · -- a slot that is not lent
    have r := hh1.at_ i sl o e1 e2
    cases sl with
    | dead => trivial
    | fz τ f => obtain ⟨v, ev, rv⟩ := r; exact ⟨v, ev, τ.mono g2'.ff rv⟩
    | ow ω f =>
      obtain ⟨p1, u1, ev, n1, h1, o1⟩ := r
      subst ev
      have nl : ¬ MsAt (lent as) σ p1 := fun ⟨j, hj, e3⟩ => by
        obtain ⟨ω', f', e4⟩ := how.all j hj
        exact hh1.sep i j ω ω' f f' p1 (fun z => ni (z ▸ hj)) e1 e4 e2 e3
      refine ⟨p1, u1, rfl, ?_, g2'.keep _ _ h1 nl, ω.mono g2'.ff o1⟩
      cases y : F2 p1 with
      | none => rfl
      | some o' =>
        rcases g2'.fresh p1 o' y with z | z
        · rw [n1] at z; cases z
        · rw [h1] at z; cases z
end
end Dx

/-! Dx, part G: what is walked, for, comprehensions. -/
namespace Dx
open PySem PySem.Spec PyProof.Rows L2
section
variable {K : PySem.W.Frag}
structure Walks (K : PySem.W.Frag) (J : It) (F0 : Hp) (τ : Ty K) (xs : List τ.α) : Prop where
  go : ∀ (i : Nat) (x : τ.α) (F H : Hp), Same F0 F → Same F H → xs[i]? = some x → J.go i H ∧ ∀ v H', J.yld i H v H' → ∃ F', Gr No F H F' H' ∧ τ.rep F' v x
  stop : ∀ (i : Nat) (F H : Hp), Same F0 F → Same F H → xs.length ≤ i → J.stop i H
  len : xs.length ≤ sizeLine
def DI {S : Type} (K : PySem.W.Frag) (X : Cx) (Δ : Ctx K S) (tg iter : Expr) (τ : Ty K) (ms : List Nat) (cs : List (S → Prop)) (Δ1 : Ctx K S) (f : S → List τ.α) (wi : TI) : Prop :=
  Diff ms Δ Δ1 ∧ PI X tg iter wi ∧ ∀ s F H σ, Holds Δ s F H σ → Same F H → Conj cs s → ∀ R : It → Hp → Prop, (∀ J F' H', Gr (MsAt ms σ) F H F' H' → Holds Δ1 s F' H' σ → Walks K J F' τ (f s) → R J H') → wi σ H R
def enumL {α : Type} (xs : List α) : List (Int × α) := xs.zipIdx.map fun p => ((p.2 : Int), p.1)
def rangeL (n : Int) : List Int := (List.range n.toNat).map fun (i : Nat) => (i : Int)
def rangeL2 (lo hi : Int) : List Int := (List.range (hi - lo).toNat).map fun (i : Nat) => lo + (i : Int)
theorem enumL_length {α : Type} (xs : List α) : (enumL xs).length = xs.length := by simp [enumL]
theorem enumL_get {α : Type} (xs : List α) (i : Nat) (x : Int × α) (e : (enumL xs)[i]? = some x) : ∃ y, xs[i]? = some y ∧ x = ((i : Int), y) := by
  unfold enumL at e
  rw [List.getElem?_map] at e
  obtain ⟨q, e1, e2⟩ := Option.map_eq_some_iff.mp e
  rw [List.getElem?_zipIdx] at e1
  obtain ⟨y, e3, e4⟩ := Option.map_eq_some_iff.mp e1
  exact ⟨y, e3, by rw [← e2, ← e4]; simp⟩
theorem zip_get {α β : Type} (xs : List α) (ys : List β) (i : Nat) (x : α × β) (e : (List.zip xs ys)[i]? = some x) : xs[i]? = some x.1 ∧ ys[i]? = some x.2 := List.getElem?_zip_eq_some.mp e
theorem zip_len {α β : Type} (xs : List α) (ys : List β) : (List.zip xs ys).length = min xs.length ys.length := List.length_zip
theorem walks_list {τ : Ty K} {F0 : Hp} {a : Addr} {vs : List V} {xs : List τ.α} (h : SqL K F0 a vs) (p : Paired (τ.rep F0) vs xs) (z : xs.length ≤ sizeLine) : Walks K (Itl K a) F0 τ xs where
  go := fun i x F H s1 s2 e => by
    obtain ⟨v, ev, rv⟩ := paired_at p e
    refine ⟨⟨vs, v, s2.seq (s1.seq h), ev⟩, fun v' H' ⟨e1, e2⟩ => ?_⟩
    subst e1
    have e3 := e2 vs (s2.seq (s1.seq h))
    rw [ev] at e3; cases e3
    exact ⟨F, Gr.refl s2, τ.mono s1 rv⟩
  stop := fun i F H s1 s2 e => ⟨vs, s2.seq (s1.seq h), by rw [p.length]; exact e⟩
  len := z
theorem walks_range {F0 : Hp} {lo : Int} {n : Nat} (z : n ≤ sizeLine) : Walks K (Itr lo n) F0 (tInt K) ((List.range n).map fun (i : Nat) => lo + (i : Int)) where
  go := fun i x F H s1 s2 e => by
    rw [List.getElem?_map] at e
    obtain ⟨j, e1, e2⟩ := Option.map_eq_some_iff.mp e
    have hl := (List.getElem?_eq_some_iff.mp e1).1
    rw [List.length_range] at hl
    rw [List.getElem?_range hl] at e1
    cases e1
    exact ⟨hl, fun v H' ⟨e3, e4⟩ => by
      subst e3
      exact ⟨F, Gr.refl s2, by rw [e4, ← e2]⟩⟩
  stop := fun i F H s1 s2 e => by
    rw [List.length_map, List.length_range] at e
    exact e
  len := by rw [List.length_map, List.length_range]; exact z
theorem new_tup {F H : Hp} {T : Addr} {vs : List V} (sm : Same F H) (n : H T = none) : Gr No F H (upd F T (.tup vs)) (upd H T (.tup vs)) := Gr.new sm n
theorem walks_enum {τ : Ty K} {F0 : Hp} {a : Addr} {vs : List V} {xs : List τ.α} (h : SqL K F0 a vs) (p : Paired (τ.rep F0) vs xs) (z : xs.length ≤ sizeLine) : Walks K (Ite K a) F0 (tTp [tInt K, τ]) (enumL xs) where
  go := fun i x F H s1 s2 e => by
    obtain ⟨y, e3, rfl⟩ := enumL_get (α := τ.α) xs i x e
    obtain ⟨v, ev, rv⟩ := paired_at p e3
    refine ⟨⟨vs, v, s2.seq (s1.seq h), ev⟩, fun v' H' ⟨T, w, r1, r2, r3, r4⟩ => ?_⟩
    have e5 := r4 vs (s2.seq (s1.seq h))
    rw [ev] at e5; cases e5
    subst r1 r3
    exact ⟨_, new_tup s2 r2, T, _, rfl, upd_same, .int (i : Nat), [v], rfl, rfl, v, rfl, τ.mono (s1.trans (same_new (s2.free r2))) rv⟩
  stop := fun i F H s1 s2 e => ⟨vs, s2.seq (s1.seq h), by rw [p.length]; exact (enumL_length (α := τ.α) xs) ▸ e⟩
  len := (enumL_length (α := τ.α) xs).symm ▸ z
theorem walks_zip {τ σ : Ty K} {F0 : Hp} {a b : Addr} {vs ws : List V} {xs : List τ.α} {ys : List σ.α} (h : SqL K F0 a vs) (p : Paired (τ.rep F0) vs xs) (z : xs.length ≤ sizeLine) (h2 : SqL K F0 b ws) (p2 : Paired (σ.rep F0) ws ys) : Walks K (Itz K a b) F0 (tTp [τ, σ]) (List.zip xs ys) where
  go := fun i x F H s1 s2 e => by
    obtain ⟨e1, e2⟩ := zip_get (α := τ.α) (β := σ.α) xs ys i x e
    obtain ⟨v, ev, rv⟩ := paired_at p e1
    obtain ⟨w, ew, rw'⟩ := paired_at p2 e2
    refine ⟨⟨vs, ws, v, w, s2.seq (s1.seq h), s2.seq (s1.seq h2), ev, ew⟩, fun v' H' ⟨T, y1, y2, r1, r2, r3, r4, r5⟩ => ?_⟩
    have e5 := r4 vs (s2.seq (s1.seq h))
    rw [ev] at e5; cases e5
    have e6 := r5 ws (s2.seq (s1.seq h2))
    rw [ew] at e6; cases e6
    subst r1 r3
    have sf := s1.trans (same_new (o := .tup [v, w]) (s2.free r2))
    exact ⟨_, new_tup s2 r2, T, _, rfl, upd_same, v, [w], rfl, τ.mono sf rv, w, rfl, σ.mono sf rw'⟩
  stop := fun i F H s1 s2 e => by
    have e := (zip_len (α := τ.α) (β := σ.α) xs ys) ▸ e
    exact ⟨vs, ws, s2.seq (s1.seq h), s2.seq (s1.seq h2), by rw [p.length, p2.length]; omega⟩
  len := (zip_len (α := τ.α) (β := σ.α) xs ys).symm ▸ (by omega)
end
section
variable {K : PySem.W.Frag} {X : Cx} {S R : Type} {fm : Fm K R} {Δ Δ1 Δ2 Δ3 Δa Δb Δj : Ctx K S} {st : Stmt} {sts body : List Stmt} {e a b c tg iter : Expr} {es elts : List Expr} {pos p' apos : Pos} {τ τ1 τ2 L L2' : Ty K} {ts : List (Ty K)} {ω : OTy K} {mus ms m1 m2 is : List Nat} {c1 c2 c3 cs : List (S → Prop)} {ta tb : TE} {tx : TT} {tl : TA} {i : Nat} {x : Str}
theorem DI.list {to : L.α → List τ.α} {f : S → L.α} (hl : LL L τ to) (he : DX K X Δ e L ms c1 Δ1 f ta) (hK : X.K = K := by rfl) : DI K X Δ tg e τ ms c1 Δ1 (fun s => to (f s)) (iList K ta) := by
  subst hK
  obtain ⟨d1, p, r⟩ := he
  refine ⟨d1, pi_list p, fun s F H σ hh sm hc R q => r s F H σ hh sm hc _ fun v F1 H1 g1 hh1 r1 => ?_⟩
  obtain ⟨a, vs, ev, sq, pr, z⟩ := hl r1
  exact ⟨a, ev, ⟨vs, g1.fh.seq sq⟩, q _ F1 H1 g1 hh1 (walks_list sq pr z)⟩
def RgOk (n : Int) : Prop := -(2 ^ 62) ≤ n ∧ n ≤ sizeLine
def RgOk2 (lo hi : Int) : Prop := -(2 ^ 62) ≤ lo ∧ lo < 2 ^ 62 ∧ -(2 ^ 62) ≤ hi ∧ hi < 2 ^ 62 ∧ hi - lo ≤ sizeLine
theorem DI.range1 {f : S → Int} {px : Pos} (hm : X.mg "range" = none) (he : DX K X Δ e (tInt K) ms c1 Δ1 f ta) (hg : Gl X "range" := by rfl) (hs : starEach [e] X.env = [(false, eval e X.env)] := by rfl) (hs2 : starEach [e] X.env = (false, eval e X.env) :: starEach [] X.env := by rfl) : DI K X Δ tg (.Call (.Name "range" px) [e] [] pos) (tInt K) ms (c1 ++ [fun s => RgOk (f s)]) Δ1 (fun s => rangeL (f s)) (iRng1 (tCons ta tNil)) := by
  obtain ⟨d1, p, r⟩ := he
  refine ⟨d1, pi_range1 hg hm (pa_cons p pa_nil hs2) hs, fun s F H σ hh sm hc R q => ?_⟩
  obtain ⟨k1, ⟨k2, k3⟩, _⟩ := conj_app hc
  refine r s F H σ hh sm k1 _ fun v F1 H1 g1 hh1 r1 => ⟨f s, by rw [r1], k2, ?_, q _ F1 H1 g1 hh1 ?_⟩
  · have : (sizeLine : Int) < 2 ^ 62 := by decide
    omega
  · have h := walks_range (K := K) (F0 := F1) (lo := 0) (n := (f s).toNat) (by omega)
    simp only [Int.zero_add] at h
    exact h
theorem DI.range2 {f g : S → Int} {px : Pos} (hm : X.mg "range" = none) (he : DX K X Δ a (tInt K) m1 c1 Δ1 f ta) (hb : DX K X Δ1 b (tInt K) m2 c2 Δ2 g tb) (hg : Gl X "range" := by rfl) (hs : starEach [a, b] X.env = [(false, eval a X.env), (false, eval b X.env)] := by rfl) (hs2 : starEach [b] X.env = [(false, eval b X.env)] := by rfl) (hs3 : starEach [a, b] X.env = (false, eval a X.env) :: starEach [b] X.env := by rfl) (hs4 : starEach [b] X.env = (false, eval b X.env) :: starEach [] X.env := by rfl) :
    DI K X Δ tg (.Call (.Name "range" px) [a, b] [] pos) (tInt K) (m1 ++ m2) (c1 ++ (c2 ++ [fun s => RgOk2 (f s) (g s)])) Δ2 (fun s => rangeL2 (f s) (g s)) (iRng2 (tCons ta (tCons tb tNil))) := by
  obtain ⟨d1, p, r⟩ := he
  obtain ⟨d2, p2, r2⟩ := hb
  refine ⟨d1.trans d2, pi_range2 hg hm (pa_cons p (pa_cons p2 pa_nil hs4) hs3) hs hs2, fun s F H σ hh sm hc R q => ?_⟩
  obtain ⟨k1, k2⟩ := conj_app hc
  obtain ⟨k2, ⟨k3, k4, k5, k6, k7⟩, _⟩ := conj_app k2
  refine r s F H σ hh sm k1 _ fun v F1 H1 g1 hh1 r1 => r2 s F1 H1 σ hh1 g1.fh k2 _ fun w F2 H2 g2 hh2 r3 => ⟨f s, g s, by rw [show v = .int (f s) from r1, show w = .int (g s) from r3], ⟨k3, k4, k5, k6⟩, q _ F2 H2 ((g1.mono (msAt_l (m2 := m2))).trans (g2.mono (msAt_r (m1 := m1)))) hh2 ?_⟩
  exact walks_range (K := K) (F0 := F2) (lo := f s) (n := (g s - f s).toNat) (by omega)
theorem DI.enum {to : L.α → List τ.α} {f : S → L.α} {px tpos : Pos} {kk : Nat} (hl : LL L τ to) (hm : X.mg "enumerate" = none) (he : DX K X Δ e L ms c1 Δ1 f ta) (hg : Gl X "enumerate" := by rfl) (hs : starEach [e] X.env = [(false, eval e X.env)] := by rfl) (hs2 : starEach [e] X.env = (false, eval e X.env) :: starEach [] X.env := by rfl) (hK : X.K = K := by rfl) :
    DI K X Δ (.Tuple elts kk tpos) (.Call (.Name "enumerate" px) [e] [] pos) (tTp [tInt K, τ]) ms c1 Δ1 (fun s => enumL (to (f s))) (iEnum K (tCons ta tNil)) := by
  subst hK
  obtain ⟨d1, p, r⟩ := he
  refine ⟨d1, pi_enum hg hm (pa_cons p pa_nil hs2) hs, fun s F H σ hh sm hc R q => r s F H σ hh sm hc _ fun v F1 H1 g1 hh1 r1 => ?_⟩
  obtain ⟨a, vs, ev, sq, pr, z⟩ := hl r1
  exact ⟨a, vs, by rw [ev], g1.fh.seq sq, q _ F1 H1 g1 hh1 (walks_enum sq pr z)⟩
theorem DI.zip {L1 : Ty K} {to : L.α → List τ.α} {to1 : L1.α → List τ1.α} {f : S → L.α} {g : S → L1.α} {px tpos : Pos} {kk : Nat} (hl : LL L τ to) (hl1 : LL L1 τ1 to1) (hm : X.mg "zip" = none) (he : DX K X Δ a L m1 c1 Δ1 f ta) (hb : DX K X Δ1 b L1 m2 c2 Δ2 g tb) (hg : Gl X "zip" := by rfl) (hs : starEach [a, b] X.env = (false, eval a X.env) :: starEach [b] X.env := by rfl) (hs2 : starEach [b] X.env = (false, eval b X.env) :: starEach [] X.env := by rfl)
    (hpl : (backTo pos (starEach [b] X.env)).any (·.1) = false := by rfl) (hK : X.K = K := by rfl) : DI K X Δ (.Tuple elts kk tpos) (.Call (.Name "zip" px) [a, b] [] pos) (tTp [τ, τ1]) (m1 ++ m2) (c1 ++ c2) Δ2 (fun s => List.zip (to (f s)) (to1 (g s))) (iZip K (tCons ta (tCons tb tNil))) := by
  subst hK
  obtain ⟨d1, p, r⟩ := he
  obtain ⟨d2, p2, r2⟩ := hb
  refine ⟨d1.trans d2, pi_zip hg hm (pa_cons p (pa_cons p2 pa_nil hs2) hs) hs hpl, fun s F H σ hh sm hc R q => ?_⟩
  obtain ⟨k1, k2⟩ := conj_app hc
  refine r s F H σ hh sm k1 _ fun v F1 H1 g1 hh1 r1 => r2 s F1 H1 σ hh1 g1.fh k2 _ fun w F2 H2 g2 hh2 r3 => ?_
  obtain ⟨a1, vs, ev, sq, pr, z⟩ := hl (L.mono g2.ff r1)
  obtain ⟨b1, ws, ew, sq2, pr2, z2⟩ := hl1 r3
  exact ⟨a1, b1, vs, ws, by rw [ev, ew], g2.fh.seq sq, g2.fh.seq sq2, q _ F2 H2 ((g1.mono (msAt_l (m2 := m2))).trans (g2.mono (msAt_r (m1 := m1)))) hh2 (walks_zip sq pr z sq2 pr2)⟩
end

/-! ### for -/
section
variable {K : PySem.W.Frag} {S M α : Type}
inductive Head {K : PySem.W.Frag} {S M : Type} (init : S → M) : Ctx K S → Ctx K (S × M) → Prop
  | nil : Head init [] []
  | keep {sl : Slot K S} {Δ : Ctx K S} {Δl : Ctx K (S × M)} : Head init Δ Δl → Head init (sl :: Δ) (sl.comap Prod.fst :: Δl)
  | dead {sl : Slot K S} {Δ : Ctx K S} {Δl : Ctx K (S × M)} : Head init Δ Δl → Head init (sl :: Δ) (.dead :: Δl)
  | fz {τ : Ty K} {f : S → τ.α} {Δ : Ctx K S} {Δl : Ctx K (S × M)} (pr : M → τ.α) : (∀ s, f s = pr (init s)) → Head init Δ Δl → Head init (.fz τ f :: Δ) (.fz τ (fun t => pr t.2) :: Δl)
  | ow {ω : OTy K} {f : S → ω.τ.α} {Δ : Ctx K S} {Δl : Ctx K (S × M)} (pr : M → ω.τ.α) : (∀ s, f s = pr (init s)) → Head init Δ Δl → Head init (.ow ω f :: Δ) (.ow ω (fun t => pr t.2) :: Δl)
inductive Back {K : PySem.W.Frag} {S M α : Type} (step : (S × M) × α → M) : Ctx K ((S × M) × α) → Ctx K (S × M) → Prop
  | nil : Back step [] []
  | keep {sl : Slot K S} {Δe : Ctx K ((S × M) × α)} {Δl : Ctx K (S × M)} : Back step Δe Δl → Back step (Slot.comap Prod.fst (sl.comap (T := S × M) Prod.fst) :: Δe) (sl.comap Prod.fst :: Δl)
  | dead {sl : Slot K ((S × M) × α)} {Δe : Ctx K ((S × M) × α)} {Δl : Ctx K (S × M)} : Back step Δe Δl → Back step (sl :: Δe) (.dead :: Δl)
  | fz {τ : Ty K} {fe : (S × M) × α → τ.α} {pr : M → τ.α} {Δe : Ctx K ((S × M) × α)} {Δl : Ctx K (S × M)} : (∀ u, fe u = pr (step u)) → Back step Δe Δl → Back step (.fz τ fe :: Δe) (.fz τ (fun t => pr t.2) :: Δl)
  | ow {ω : OTy K} {fe : (S × M) × α → ω.τ.α} {pr : M → ω.τ.α} {Δe : Ctx K ((S × M) × α)} {Δl : Ctx K (S × M)} : (∀ u, fe u = pr (step u)) → Back step Δe Δl → Back step (.ow ω fe :: Δe) (.ow ω (fun t => pr t.2) :: Δl)
theorem Head.as {init : S → M} {Δ : Ctx K S} {Δl : Ctx K (S × M)} (h : Head init Δ Δl) (s : S) : AsC Δ s Δl (s, init s) := by
  induction h with
  | nil => exact .nil
  | @keep sl _ _ _ ih =>
    cases sl with
    | dead => exact .cons (.inl rfl) ih
    | fz τ f => exact .cons (.inr (.inl ⟨τ, f, _, rfl, rfl, rfl⟩)) ih
    | ow ω f => exact .cons (.inr (.inr ⟨ω, f, _, rfl, rfl, rfl⟩)) ih
  | dead _ ih => exact .cons (.inl rfl) ih
  | @fz τ f _ _ pr e _ ih => exact .cons (.inr (.inl ⟨τ, f, _, rfl, rfl, e s⟩)) ih
  | @ow ω f _ _ pr e _ ih => exact .cons (.inr (.inr ⟨ω, f, _, rfl, rfl, e s⟩)) ih
theorem Back.as {step : (S × M) × α → M} {Δe : Ctx K ((S × M) × α)} {Δl : Ctx K (S × M)} (h : Back step Δe Δl) (u : (S × M) × α) : AsC Δe u Δl (u.1.1, step u) := by
  induction h with
  | nil => exact .nil
  | @keep sl _ _ _ ih =>
    cases sl with
    | dead => exact .cons (.inl rfl) ih
    | fz τ f => exact .cons (.inr (.inl ⟨τ, _, _, rfl, rfl, rfl⟩)) ih
    | ow ω f => exact .cons (.inr (.inr ⟨ω, _, _, rfl, rfl, rfl⟩)) ih
  | dead _ ih => exact .cons (.inl rfl) ih
  | @fz τ fe pr _ _ e _ ih => exact .cons (.inr (.inl ⟨τ, _, _, rfl, rfl, e u⟩)) ih
  | @ow ω fe pr _ _ e _ ih => exact .cons (.inr (.inr ⟨ω, _, _, rfl, rfl, e u⟩)) ih
/-- what is asked of every turn -/
def loopC (c : M → α → Prop) (step : M → α → M) : List α → M → Prop
  | [], _ => True
  | x :: xs, m => c m x ∧ loopC c step xs (step m x)
def loopF (step : M → α → M) : List α → M → M
  | [], m => m
  | x :: xs, m => loopF step xs (step m x)
/-- a loop that may return -/
def loopR {R : Type} (r : M → α → Option R) (step : M → α → M) : List α → M → Option R
  | [], _ => none
  | x :: xs, m => match r m x with | some v => some v | none => loopR r step xs (step m x)
def loopCr {R : Type} (c : M → α → Prop) (r : M → α → Option R) (step : M → α → M) : List α → M → Prop
  | [], _ => True
  | x :: xs, m => c m x ∧ (r m x = none → loopCr c r step xs (step m x))
theorem comap_holds {S T : Type} {g : T → S} {Δ : Ctx K S} {t : T} {F H : Hp} {σ : L2.St} (hh : Holds Δ (g t) F H σ) : Holds (Δ.comap g) t F H σ where
  len := by rw [List.length_map]; exact hh.len
  at_ := fun i sl o e1 e2 => by
    rw [List.getElem?_map] at e1
    obtain ⟨sl', q1, q2⟩ := Option.map_eq_some_iff.mp e1
    have r := hh.at_ i sl' o q1 e2
    subst q2
    cases sl' <;> exact r
  sep := fun i j ω ω' f f' p n e1 e2 e3 => by
    have up : ∀ {i : Nat} {ω : OTy K} {f : T → ω.τ.α}, (Δ.comap g)[i]? = some (.ow ω f) → ∃ (f' : S → ω.τ.α), Δ[i]? = some (.ow ω f') := fun {i ω f} e => by
      rw [List.getElem?_map] at e
      obtain ⟨sl', q1, q2⟩ := Option.map_eq_some_iff.mp e
      cases sl' with
      | dead => cases q2
      | fz _ _ => cases q2
      | ow _ f' => cases q2; exact ⟨f', q1⟩
    obtain ⟨_, k1⟩ := up e1
    obtain ⟨_, k2⟩ := up e2
    exact hh.sep i j ω ω' _ _ p n k1 k2 e3
theorem comap_own {S T : Type} {g : T → S} {Δ : Ctx K S} {σ : L2.St} {a : Addr} : Own (Δ.comap g) σ a ↔ Own Δ σ a := by
  constructor
  · rintro ⟨i, ω, f, e1, e2⟩
    rw [List.getElem?_map] at e1
    obtain ⟨sl', q1, q2⟩ := Option.map_eq_some_iff.mp e1
    cases sl' with
    | dead => cases q2
    | fz _ _ => cases q2
    | ow _ f' => cases q2; exact ⟨i, _, f', q1, e2⟩
  · rintro ⟨i, ω, f, e1, e2⟩
    exact ⟨i, ω, fun t => f (g t), by rw [List.getElem?_map, e1]; rfl, e2⟩
/-- the same shape of contexts -/
theorem GrS.shape {A B C D : Type} {mus : List Nat} {Δ : Ctx K A} {Δ1 : Ctx K B} {Δ' : Ctx K C} {Δ1' : Ctx K D} {σ σ1 : L2.St} {F H F1 H1 : Hp} (g : GrS mus Δ σ Δ1 σ1 F H F1 H1) (h : ∀ a, Own Δ σ a ↔ Own Δ' σ a) (h1 : ∀ a, Own Δ1' σ1 a → Own Δ1 σ1 a) : GrS mus Δ' σ Δ1' σ1 F H F1 H1 where
  ff := g.ff
  fh := g.fh
  fresh := fun a o e => (g.fresh a o e).imp id fun z => z.imp id (h a).mp
  keep := fun a o e n => g.keep a o e fun z => n ((h a).mp z)
  dom := g.dom
  own := fun a z => (g.own a (h1 a z)).imp (h a).mp id
  mu := g.mu
theorem GrS.grow {A B : Type} {mus : List Nat} {Δ : Ctx K A} {Δ1 : Ctx K B} {σ σ1 : L2.St} {F H F1 H1 F2 H2 : Hp} (g : GrS mus Δ σ Δ1 σ1 F H F1 H1) (k : Gr No F1 H1 F2 H2) : GrS mus Δ σ Δ1 σ1 F H F2 H2 :=
  g.trans ⟨⟨k.ff, k.fh, fun a o e => (k.fresh a o e).imp id .inl, fun a o e _ => k.keep a o e id, k.dom⟩, fun a z => .inl z, fun _ _ => rfl⟩
end
section
variable {K : PySem.W.Frag} {X : Cx} {S M R : Type} {fm : Fm K R} {Δ Δ1 : Ctx K S} {Δl : Ctx K (S × M)} {body : List Stmt} {tg iter : Expr} {pos : Pos} {τ : Ty K} {Δb Δe : Ctx K ((S × M) × τ.α)} {mus ms is : List Nat} {c1 : List (S → Prop)} {cb : List ((S × M) × τ.α → Prop)} {wi : TI} {g : TG} {fx : S → List τ.α} {init : S → M} {step : (S × M) × τ.α → M}
theorem DS.for_ (hi : DI K X Δ tg iter τ ms c1 Δ1 fx wi) (hm : OwnAll Δ ms) (h0 : Head init Δ1 Δl) (hg : DG K X (Δl.comap Prod.fst) tg τ Prod.snd is Δb g) (his : ∀ j ∈ is, j ∉ mus) (hb : DN K X mus Δb body cb Δe) (hk : Back step Δe Δl)
    (hp : PassesOwn (model X.prog X.w) X.A X.env X.xe := by exact PassesOwn.never) (hc : X.calm = true := by rfl) (hs : ∀ x, foldedSetIterable iter X.env x = pure x := by intro _; rfl) :
    DS K X mus Δ (.For tg iter body [] pos) (c1 ++ [fun s => loopC (fun m x => Conj cb ((s, m), x)) (fun m x => step ((s, m), x)) (fx s) (init s)]) (Δl.comap fun s => (s, loopF (fun m x => step ((s, m), x)) (fx s) (init s))) := by
  obtain ⟨d1, p, r⟩ := hi
  obtain ⟨_, pg, rg⟩ := hg
  obtain ⟨tb, pb, rb⟩ := hb
  refine ⟨_, ps_for hp hc p pg pb hs, fun s F H σ hh sm hcs D q => ?_⟩
  obtain ⟨k1, k2, _⟩ := conj_app hcs
  refine r s F H σ hh sm k1 _ fun J F1 H1 g1 hh1 wk => ?_
  have gs1 : GrS mus Δ σ Δ1 σ F H F1 H1 := gs0 hm d1 hh g1
  have hl := (h0.as s).holds hh1
  have gl := gs1.as (h0.as s)
  refine ⟨fun i k σ' H' => ∃ m F', k = (fx s).length - i ∧ i ≤ (fx s).length ∧ loopF (fun m x => step ((s, m), x)) ((fx s).drop i) m = loopF (fun m x => step ((s, m), x)) (fx s) (init s) ∧ loopC (fun m x => Conj cb ((s, m), x)) (fun m x => step ((s, m), x)) ((fx s).drop i) m ∧
    Same F1 F' ∧ Holds Δl (s, m) F' H' σ' ∧ GrS mus Δ σ Δl σ' F H F' H', ⟨_, init s, F1, rfl, Nat.zero_le _, rfl, k2, Same.refl F1, hl, gl⟩, ?_⟩
  rintro i k σ' H' ⟨m, F', rfl, hi, ef, ec, sf, hh', g'⟩
  by_cases hlt : i < (fx s).length
  · refine .inr ?_
    have ex : (fx s)[i]? = some (fx s)[i] := List.getElem?_eq_getElem hlt
    have ed : (fx s).drop i = (fx s)[i] :: (fx s).drop (i + 1) := List.drop_eq_getElem_cons hlt
    rw [ed] at ef ec
    obtain ⟨w1, w2⟩ := wk.go i _ F' H' sf g'.fh ex
    refine ⟨w1, fun σ2 H2 => ∃ F2, Same F1 F2 ∧ Holds Δl (s, step ((s, m), (fx s)[i])) F2 H2 σ2 ∧ GrS mus Δ σ Δl σ2 F H F2 H2, fun σ2 H2 ⟨F2, y1, y2, y3⟩ => ⟨_, by omega, _, F2, rfl, hlt, ef, ec.2, y1, y2, y3⟩, fun v H2 hy => ?_⟩
    obtain ⟨F2, g2, rv⟩ := w2 v H2 hy
    have hh2 : Holds (Δl.comap Prod.fst) ((s, m), (fx s)[i]) F2 H2 σ' := comap_holds (hh'.grow g2)
    refine rg ((s, m), (fx s)[i]) F2 H2 σ' v hh2 g2.fh rv _ fun σ3 hh3 ow3 nx3 => ?_
    refine rb _ F2 H2 σ3 hh3 g2.fh ec.1 _ fun σ4 F4 H4 g4 hh4 => ?_
    refine ⟨F4, sf.trans (g2.ff.trans g4.ff), (hk.as ((s, m), (fx s)[i])).holds hh4, ?_⟩
    have gt : GrS mus Δl σ' Δb σ3 F2 H2 F2 H2 := ⟨⟨Same.refl F2, g2.fh, fun _ _ e => .inl e, fun _ _ e _ => e, fun _ e => e⟩, fun a z => .inl (comap_own.mp (ow3 a z)), fun k hk => nx3 k fun z => his k z hk⟩
    exact (((g'.grow g2).trans gt).trans g4).as (hk.as ((s, m), (fx s)[i]))
  · refine .inl ⟨wk.stop i F' H' sf g'.fh (by omega), ?_⟩
    have ed : (fx s).drop i = [] := List.drop_eq_nil_of_le (by omega)
    rw [ed] at ef
    have ef' : m = loopF (fun m x => step ((s, m), x)) (fx s) (init s) := ef
    rw [ef'] at hh'
    exact q σ' F' H' (g'.shape (fun _ => Iff.rfl) fun a z => comap_own.mp z) (comap_holds (g := fun s => (s, loopF (fun m x => step ((s, m), x)) (fx s) (init s))) hh')
theorem DSm.for_ {r : (S × M) × τ.α → Option R} (hi : DI K X Δ tg iter τ ms c1 Δ1 fx wi) (hm : OwnAll Δ ms) (h0 : Head init Δ1 Δl) (hg : DG K X (Δl.comap Prod.fst) tg τ Prod.snd is Δb g) (his : ∀ j ∈ is, j ∉ musOf 0 fm.ps) (hb : DM K X fm Δb body cb r Δe) (hk : Back step Δe Δl)
    (hp : PassesOwn (model X.prog X.w) X.A X.env X.xe := by exact PassesOwn.never) (hc : X.calm = true := by rfl) (hs : ∀ x, foldedSetIterable iter X.env x = pure x := by intro _; rfl) :
    DSm K X fm Δ (.For tg iter body [] pos) (c1 ++ [fun s => loopCr (fun m x => Conj cb ((s, m), x)) (fun m x => r ((s, m), x)) (fun m x => step ((s, m), x)) (fx s) (init s)]) (fun s => loopR (fun m x => r ((s, m), x)) (fun m x => step ((s, m), x)) (fx s) (init s)) (Δl.comap fun s => (s, loopF (fun m x => step ((s, m), x)) (fx s) (init s))) := by
  obtain ⟨d1, p, ri⟩ := hi
  obtain ⟨_, pg, rg⟩ := hg
  obtain ⟨tb, pb, rb⟩ := hb
  refine ⟨_, ps_for hp hc p pg pb hs, fun s F H σ hh sm hcs D q1 q2 => ?_⟩
  obtain ⟨k1, k2, _⟩ := conj_app hcs
  refine ri s F H σ hh sm k1 _ fun J F1 H1 g1 hh1 wk => ?_
  have gs1 : GrS (musOf 0 fm.ps) Δ σ Δ1 σ F H F1 H1 := gs0 hm d1 hh g1
  have hl := (h0.as s).holds hh1
  have gl := gs1.as (h0.as s)
  refine ⟨fun i k σ' H' => ∃ m F', k = (fx s).length - i ∧ i ≤ (fx s).length ∧ loopF (fun m x => step ((s, m), x)) ((fx s).drop i) m = loopF (fun m x => step ((s, m), x)) (fx s) (init s) ∧
    loopR (fun m x => r ((s, m), x)) (fun m x => step ((s, m), x)) ((fx s).drop i) m = loopR (fun m x => r ((s, m), x)) (fun m x => step ((s, m), x)) (fx s) (init s) ∧
    loopCr (fun m x => Conj cb ((s, m), x)) (fun m x => r ((s, m), x)) (fun m x => step ((s, m), x)) ((fx s).drop i) m ∧
    Same F1 F' ∧ Holds Δl (s, m) F' H' σ' ∧ GrS (musOf 0 fm.ps) Δ σ Δl σ' F H F' H', ⟨_, init s, F1, rfl, Nat.zero_le _, rfl, rfl, k2, Same.refl F1, hl, gl⟩, ?_⟩
  rintro i k σ' H' ⟨m, F', rfl, hi, ef, er, ec, sf, hh', g'⟩
  by_cases hlt : i < (fx s).length
  · refine .inr ?_
    have ex : (fx s)[i]? = some (fx s)[i] := List.getElem?_eq_getElem hlt
    have ed : (fx s).drop i = (fx s)[i] :: (fx s).drop (i + 1) := List.drop_eq_getElem_cons hlt
    rw [ed] at ef er ec
    obtain ⟨w1, w2⟩ := wk.go i _ F' H' sf g'.fh ex
    refine ⟨w1, fun σ2 H2 => r ((s, m), (fx s)[i]) = none ∧ ∃ F2, Same F1 F2 ∧ Holds Δl (s, step ((s, m), (fx s)[i])) F2 H2 σ2 ∧ GrS (musOf 0 fm.ps) Δ σ Δl σ2 F H F2 H2, fun σ2 H2 ⟨y0, F2, y1, y2, y3⟩ => ⟨_, by omega, _, F2, rfl, hlt, ef, by rw [← er]; simp only [loopR, y0], ec.2 y0, y1, y2, y3⟩, fun v H2 hy => ?_⟩
    obtain ⟨F2, g2, rv⟩ := w2 v H2 hy
    have hh2 : Holds (Δl.comap Prod.fst) ((s, m), (fx s)[i]) F2 H2 σ' := comap_holds (hh'.grow g2)
    refine rg ((s, m), (fx s)[i]) F2 H2 σ' v hh2 g2.fh rv _ fun σ3 hh3 ow3 nx3 => ?_
    have gt : GrS (musOf 0 fm.ps) Δl σ' Δb σ3 F2 H2 F2 H2 := ⟨⟨Same.refl F2, g2.fh, fun _ _ e => .inl e, fun _ _ e _ => e, fun _ e => e⟩, fun a z => .inl (comap_own.mp (ow3 a z)), fun k hk => nx3 k fun z => his k z hk⟩
    have gA : GrS (musOf 0 fm.ps) Δ σ Δb σ3 F H F2 H2 := (g'.grow g2).trans gt
    refine rb _ F2 H2 σ3 hh3 g2.fh ec.1 _ (fun y ey => ?_) fun ey σ4 F4 H4 g4 hh4 => ?_
    · have e1 : loopR (fun m x => r ((s, m), x)) (fun m x => step ((s, m), x)) (fx s) (init s) = some y := by rw [← er]; simp only [loopR, ey]
      exact fun v5 F5 H5 g5 ro mo => q1 y e1 v5 F5 H5 (GrR.after gA g5) (ro.dom fun _ => Fresh.back gA) (mo.congr fun j h => gA.mu j h)
    · exact ⟨ey, F4, sf.trans (g2.ff.trans g4.ff), (hk.as ((s, m), (fx s)[i])).holds hh4, (gA.trans g4).as (hk.as ((s, m), (fx s)[i]))⟩
  · refine .inl ⟨wk.stop i F' H' sf g'.fh (by omega), ?_⟩
    have ed : (fx s).drop i = [] := List.drop_eq_nil_of_le (by omega)
    rw [ed] at ef er
    have ef' : m = loopF (fun m x => step ((s, m), x)) (fx s) (init s) := ef
    rw [ef'] at hh'
    exact q2 er.symm σ' F' H' (g'.shape (fun _ => Iff.rfl) fun a z => comap_own.mp z) (comap_holds (g := fun s => (s, loopF (fun m x => step ((s, m), x)) (fx s) (init s))) hh')
end
end Dx

/-! Dx, part H: comprehensions, two stores at once, built-ins. -/
namespace Dx
open PySem PySem.Spec PyProof.Rows L2
section
variable {K : PySem.W.Frag} {S : Type}
/-- the slots vs forgotten -/
def killL (Δ : Ctx K S) : List Nat → Ctx K S
  | [] => Δ
  | v :: vs => (killL Δ vs).set v .dead
theorem kill_get {Δ : Ctx K S} {i : Nat} {sl : Slot K S} : ∀ {vs : List Nat}, (killL Δ vs)[i]? = some sl → sl = .dead ∨ (i ∉ vs ∧ Δ[i]? = some sl)
  | [], h => .inr ⟨List.not_mem_nil, h⟩
  | v :: vs, h => by
    rcases get_set1 h with ⟨_, e, _⟩ | ⟨n, h⟩
    · exact .inl e
    · rcases kill_get h with e | ⟨n2, e⟩
      · exact .inl e
      · exact .inr ⟨fun z => (List.mem_cons.mp z).elim (fun q => n q.symm) n2, e⟩
theorem kill_len {Δ : Ctx K S} : ∀ {vs : List Nat}, (killL Δ vs).length = Δ.length
  | [] => rfl
  | v :: vs => by unfold killL; rw [List.length_set, kill_len]
theorem kill_holds {Δ : Ctx K S} {s : S} {F H : Hp} {σ : L2.St} {vs : List Nat} (hh : Holds Δ s F H σ) : Holds (killL Δ vs) s F H (wipe σ vs) where
  len := by rw [wipe_length, kill_len]; exact hh.len
  at_ := fun i sl o e1 e2 => by
    rcases kill_get e1 with z | ⟨n, e⟩
    · subst z; trivial
    · rw [wipe_out n] at e2
      exact hh.at_ i sl o e e2
  sep := fun i j ω ω' f f' p n e1 e2 e3 => by
    rcases kill_get e1 with z | ⟨n1, k1⟩
    · cases z
    · rcases kill_get e2 with z | ⟨n2, k2⟩
      · cases z
      · rw [wipe_out n1] at e3
        rw [wipe_out n2]
        exact hh.sep i j ω ω' f f' p n k1 k2 e3
/-- a clause's tests -/
def DTs' {S : Type} (K : PySem.W.Frag) (X : Cx) (Δ : Ctx K S) (ifs : List Expr) (cs : List (S → Prop)) (f : S → Bool) (t : TT) : Prop :=
  PTs X ifs t ∧ ∀ s F H σ, Holds Δ s F H σ → Same F H → Conj cs s → ∀ Q : Bool → Hp → Prop, (∀ F' H', Gr No F H F' H' → Q (f s) H') → t σ H Q
theorem DTs'.nil {X : Cx} {Δ : Ctx K S} : DTs' K X Δ [] [] (fun _ => true) tYes := ⟨pts_nil, fun s F H σ hh sm _ Q q => q F H (Gr.refl sm)⟩
theorem DTs'.one {X : Cx} {Δ : Ctx K S} {c : Expr} {cs : List (S → Prop)} {f : S → Bool} {t : TT} (h : DT K X Δ c [] cs Δ f t) : DTs' K X Δ [c] cs f t :=
  ⟨pts_one h.2.1, fun s F H σ hh sm hc Q q => h.2.2 s F H σ hh sm hc Q fun F' H' g _ => q F' H' (by rw [msAt_nil] at g; exact g)⟩
end
section
variable {K : PySem.W.Frag} {X : Cx} {S R : Type} {Δ Δ1 Δ2 : Ctx K S} {st : Stmt} {e a b c tg iter elt : Expr} {es ifs : List Expr} {pos p' apos : Pos} {τ τe τ1 τ2 L : Ty K} {ω ω1 ω2 : OTy K} {mus ms m1 m2 is vs : List Nat} {c1 c2 c3 cs : List (S → Prop)} {ta tb te : TE} {tt tx : TT} {tl : TA} {i j : Nat} {x y : Str}
/-- what a comprehension without effects is worth -/
def lcV {α β : Type} (xs : List α) (t : α → Bool) (f : α → β) : List β := (xs.filter t).map f
/-- the reading of a comprehension -/
theorem lc_sem {Δb : Ctx K (S × τ.α)} {fx : S → List τ.α} {wi : TI} {g : TG} {ct ce : List (S × τ.α → Prop)} {ft : S × τ.α → Bool} {fe : S × τ.α → τe.α}
    (ri : ∀ s F H σ, Holds Δ s F H σ → Same F H → Conj c1 s → ∀ R : It → Hp → Prop, (∀ J F' H', Gr (MsAt ms σ) F H F' H' → Holds Δ1 s F' H' σ → Walks K J F' τ (fx s) → R J H') → wi σ H R)
    (lg : Δb.length = (Ctx.comap (T := S × τ.α) Prod.fst (killL Δ1 vs)).length) (rg : ∀ (s : S × τ.α) F H σ v, Holds (Ctx.comap (T := S × τ.α) Prod.fst (killL Δ1 vs)) s F H σ → Same F H → τ.rep F v s.2 → ∀ Q : L2.St → Hp → Prop, (∀ σ1, Holds Δb s F H σ1 → (∀ a, Own Δb σ1 a → Own (Ctx.comap (T := S × τ.α) Prod.fst (killL Δ1 vs)) σ a) → (∀ k, k ∉ is → σ1[k]? = σ[k]?) → Q σ1 H) → g v σ H Q)
    (rt : ∀ s F H σ, Holds Δb s F H σ → Same F H → Conj ct s → ∀ Q : Bool → Hp → Prop, (∀ F' H', Gr No F H F' H' → Q (ft s) H') → tt σ H Q)
    (re : ∀ s F H σ, Holds Δb s F H σ → Same F H → Conj ce s → ∀ Q : VK, (∀ v F' H', Gr (MsAt [] σ) F H F' H' → Holds Δb s F' H' σ → τe.rep F' v (fe s) → Q v H') → te σ H Q)
    (his : ∀ j ∈ is, j ∈ vs) :
    ∀ s F H σ, Holds Δ s F H σ → Same F H → Conj (c1 ++ [fun s => ∀ x ∈ fx s, Conj ct (s, x) ∧ (ft (s, x) = true → Conj ce (s, x))]) s → ∀ Q : VK, (∀ p u F' H', Gr (MsAt ms σ) F H F' H' → Holds Δ1 s F' H' σ → H p = none → F' p = none → H' p = some u → (oList τe).own F' u (lcV (fx s) (fun x => ft (s, x)) (fun x => fe (s, x))) → Q (.ref p) H') → tLc wi g tt te vs σ H Q := by
  intro s F H σ hh sm hcs Q q
  obtain ⟨k1, k2, _⟩ := conj_app hcs
  refine ri s F H σ hh sm k1 _ fun J F1 H1 g1 hh1 wk D hD => ?_
  have nD : F1 D = none := g1.fh.free hD
  refine ⟨fun i k H' => ∃ F' acc, k = (fx s).length - i ∧ i ≤ (fx s).length ∧ Gr (fun a => a = D) F1 (upd H1 D (.lst [])) F' H' ∧ F' D = none ∧ H' D = some (.lst acc) ∧ Paired (τe.rep F') acc (lcV ((fx s).take i) (fun x => ft (s, x)) (fun x => fe (s, x))) ∧ Same F1 F',
    ⟨_, F1, [], rfl, Nat.zero_le _, Gr.refl (fun a o z => by rw [upd_ne (ne_of_none z nD)]; exact g1.fh a o z), nD, upd_same, by rw [List.take_zero]; exact .nil, Same.refl F1⟩, ?_⟩
  rintro i k H' ⟨F', acc, rfl, hi, g', n', e', pr, sf⟩
  -- the frame's own objects stand as they stood
  have back : Gr No F1 H1 F' H' := gr_mk (fun a o z => g'.keep a o (by rw [upd_ne (ne_of_none z hD)]; exact z) fun w => by subst w; rw [hD] at z; cases z) g'.ff g'.fh fun a o z => by
    rcases g'.fresh a o z with w | w
    · exact .inl w
    · by_cases y : a = D
      · subst y; exact .inr hD
      · rw [upd_ne y] at w; exact .inr w
  have lt : ∀ n, (lcV ((fx s).take n) (fun x => ft (s, x)) (fun x => fe (s, x))).length ≤ min n (fx s).length := fun n => by
    unfold lcV
    rw [List.length_map]
    refine Nat.le_trans (List.length_filter_le _ _) ?_
    rw [List.length_take]
    exact Nat.le_refl _
  by_cases hlt : i < (fx s).length
  · refine .inr ?_
    have ex : (fx s)[i]? = some (fx s)[i] := List.getElem?_eq_getElem hlt
    obtain ⟨w1, w2⟩ := wk.go i _ F' H' sf g'.fh ex
    have kx := k2 _ (List.getElem_mem hlt)
    refine ⟨w1, fun H2 => ∃ F2 acc2, Gr (fun a => a = D) F1 (upd H1 D (.lst [])) F2 H2 ∧ F2 D = none ∧ H2 D = some (.lst acc2) ∧ Paired (τe.rep F2) acc2 (lcV ((fx s).take (i + 1)) (fun x => ft (s, x)) (fun x => fe (s, x))) ∧ Same F1 F2, fun H2 ⟨F2, acc2, y1, y2, y3, y4, y5⟩ => ⟨_, by omega, F2, acc2, rfl, hlt, y1, y2, y3, y4, y5⟩, fun v H2 hy => ?_⟩
    obtain ⟨F2, g2, rv⟩ := w2 v H2 hy
    have hhk : Holds (Ctx.comap (T := S × τ.α) Prod.fst (killL Δ1 vs)) (s, (fx s)[i]) F2 H2 (wipe σ vs) := comap_holds (kill_holds ((hh1.grow back).grow g2))
    refine rg (s, (fx s)[i]) F2 H2 (wipe σ vs) v hhk g2.fh rv _ fun σ3 hh3 ow3 nx3 => ⟨?_, ?_⟩
    · -- only names of the block were stored
      apply List.ext_getElem?
      intro j
      by_cases hj : j ∈ vs
      · have : ∀ {σ : L2.St} {ws : List Nat}, j ∈ ws → (wipe σ ws)[j]? = if j < σ.length then some none else none := by
          intro σ ws
          induction ws with
          | nil => intro h; cases h
          | cons w ws ih =>
            intro h
            unfold wipe
            by_cases hw : w = j
            · subst hw
              rw [List.getElem?_set, if_pos rfl, wipe_length]
            · rw [List.getElem?_set_ne hw]
              exact ih ((List.mem_cons.mp h).resolve_left fun z => hw z.symm)
        rw [this hj, this hj]
        have l3 : σ3.length = (wipe σ vs).length := by rw [hh3.len, hhk.len]; exact lg
        rw [l3, wipe_length]
      · rw [wipe_out hj, wipe_out hj, nx3 j fun z => hj (his j z), wipe_out hj]
    · refine rt _ F2 H2 σ3 hh3 g2.fh kx.1 _ fun F3 H3 g3 => ?_
      have ek : (fx s).take (i + 1) = (fx s).take i ++ [(fx s)[i]] := by rw [List.take_add_one, ex]; rfl
      have gD : Gr (fun a => a = D) F1 (upd H1 D (.lst [])) F3 H3 := g'.trans ((g2.trans g3).of0)
      have stay : ∀ {Fa Ha Fb Hb : Hp}, Gr No Fa Ha Fb Hb → Fa D = none → Ha D = some (.lst acc) → Fb D = none ∧ Hb D = some (.lst acc) := fun {Fa Ha Fb Hb} g n h => by
        refine ⟨?_, g.same _ _ h⟩
        cases z : Fb D with
        | none => rfl
        | some o =>
          rcases g.fresh D o z with w | w
          · rw [n] at w; cases w
          · rw [h] at w; cases w
      obtain ⟨n3, e3⟩ := stay (g2.trans g3) n' e'
      cases et : ft (s, (fx s)[i]) with
      | false =>
        show ∃ F2 acc2, _
        refine ⟨F3, acc, gD, n3, e3, ?_, sf.trans (g2.trans g3).ff⟩
        rw [ek]
        unfold lcV
        rw [List.filter_append, List.map_append, show List.filter (fun x => ft (s, x)) [(fx s)[i]] = [] by simp [et]]
        simp only [List.map_nil, List.append_nil]
        exact paired_mono (fun a b r => τe.mono (g2.trans g3).ff r) pr
      | true =>
        show te σ3 H3 _
        refine re _ F3 H3 σ3 (hh3.grow g3) g3.fh (kx.2 et) _ fun w F4 H4 g4 hh4 r4 => ?_
        rw [msAt_nil] at g4
        obtain ⟨n4, e4⟩ := stay g4 n3 e3
        have ll : acc.length < sizeLine := by
          rw [pr.length]
          have := lt i
          have := wk.len
          omega
        refine ⟨acc, e4, ll, F4, acc ++ [w], ?_, n4, upd_same, ?_, sf.trans ((g2.trans g3).trans g4).ff⟩
        · have g5 := gD.trans (g4.of0 (B := fun a => a = D))
          refine g5.trans ⟨Same.refl F4, fun a o z => by rw [upd_ne (ne_of_none z n4)]; exact g4.fh a o z, fun a o z => .inl z, fun a o z nz => by rw [upd_ne nz]; exact z, fun a z => ?_⟩
          by_cases y : a = D
          · subst y; rw [upd_same] at z; cases z
          · rw [upd_ne y] at z; exact z
        · rw [ek]
          unfold lcV
          rw [List.filter_append, List.map_append, show List.filter (fun x => ft (s, x)) [(fx s)[i]] = [(fx s)[i]] by simp [et]]
          exact paired_app (paired_mono (fun a b r => τe.mono ((g2.trans g3).trans g4).ff r) pr) (.cons r4 .nil)
  · refine .inl ⟨wk.stop i F' H' sf g'.fh (by omega), ?_⟩
    have ed : (fx s).take i = fx s := List.take_of_length_le (by omega)
    rw [ed] at pr
    refine q D (.lst acc) F' H' (g1.trans back.of0) (hh1.grow back) (g1.dom D hD) n' e' ⟨acc, rfl, pr, ?_⟩
    have := lt (fx s).length
    rw [List.take_length] at this
    have := wk.len
    omega

/-- [elt for tg in iter if ..] without effects -/
theorem DO.lc {scope : Scope} {own : List (Str × Nat)} {Δb : Ctx K (S × τ.α)} {fx : S → List τ.α} {wi : TI} {g : TG} {ct ce : List (S × τ.α → Prop)} {ft : S × τ.α → Bool} {fe : S × τ.α → τe.α} (hN : X.N.Nodup) (hi : DI K X Δ tg iter τ ms c1 Δ1 fx wi) (ok : BlkOk X.N X.env.scope scope own)
    (hg : ∀ (s : Shared) (H : Hp) (C : Addr) (cl : List (Str × Addr)) (fp : List Addr), DG K (X.blk s H scope (compEnvC scope cl C X.env) fp) (Ctx.comap (T := S × τ.α) Prod.fst (killL Δ1 (own.map (·.2)))) tg τ Prod.snd is Δb g)
    (ht : ∀ (s : Shared) (H : Hp) (C : Addr) (cl : List (Str × Addr)) (fp : List Addr), DTs' K (X.blk s H scope (compEnvC scope cl C X.env) fp) Δb ifs ct ft tt)
    (he : ∀ (s : Shared) (H : Hp) (C : Addr) (cl : List (Str × Addr)) (fp : List Addr), DX K (X.blk s H scope (compEnvC scope cl C X.env) fp) Δb elt τe [] ce Δb fe te) (his : ∀ j ∈ is, j ∈ own.map (·.2)) (hc : X.calm = true := by rfl) (hs : ∀ x, foldedSetIterable iter X.env x = pure x := by intro _; rfl) :
    DO K X Δ (.ListComp elt [⟨tg, iter, ifs, 0⟩] scope pos) (oList τe) ms (c1 ++ [fun s => ∀ x ∈ fx s, Conj ct (s, x) ∧ (ft (s, x) = true → Conj ce (s, x))]) Δ1 (fun s => lcV (fx s) (fun x => ft (s, x)) (fun x => fe (s, x))) (tLc wi g tt te (own.map (·.2))) :=
  ⟨hi.1, pe_lc hc hN hi.2.1 ok (fun s H C cl fp => (hg s H C cl fp).2.1) (fun s H C cl fp => (ht s H C cl fp).1) (fun s H C cl fp => (he s H C cl fp).2.1) hs, by
    have s0 : Shared := {}
    exact lc_sem (is := is) hi.2.2 (hg s0 (fun _ => none) 0 [] []).1 (hg s0 (fun _ => none) 0 [] []).2.2 (ht s0 (fun _ => none) 0 [] []).2 (he s0 (fun _ => none) 0 [] []).2.2 his⟩
/-! #### an own list is lent to an expression that makes nothing of it -/
/-- all the slots ms hold what reads no list -/
def LfAll (Δ : Ctx K S) : List Nat → Prop
  | [] => True
  | i :: is => (∃ (ω : OTy K) (f : S → ω.τ.α), Δ[i]? = some (.ow ω f) ∧ LFo ω) ∧ LfAll Δ is
theorem LfAll.all : ∀ {ms : List Nat}, LfAll Δ ms → ∀ i ∈ ms, ∃ (ω : OTy K) (f : S → ω.τ.α), Δ[i]? = some (.ow ω f) ∧ LFo ω
  | [], _, _, h => nomatch h
  | j :: ms, h, i, m => by
    rcases List.mem_cons.mp m with e | e
    · subst e; exact h.1
    · exact LfAll.all h.2 i e
/-- the heap's told part without the lent object; the slots behind -/
theorem unlend {s : S} {F H F1 H1 : Hp} {σ : L2.St} {a : Addr} {u : HO} {f : S → ω.τ.α} (hh : Holds Δ s F H σ) (h : Δ[i]? = some (.ow ω f)) (e1 : σ[i]? = some (some (.ref a))) (e2 : F a = none) (e3 : H a = some u) (o : ω.own F u (f s)) (him : i ∉ ms) (hm : OwnAll Δ ms) (d : Diff ms (Δ.set i (.fz ω.τ f)) Δ1) (lf : LfAll Δ1 ms)
    (g1 : Gr (MsAt ms σ) (upd F a u) H F1 H1) (hh1 : Holds Δ1 s F1 H1 σ) : Gr (MsAt ms σ) F H (fun b => if b = a then none else F1 b) H1 ∧ Holds (Δ1.set i (.ow ω f)) s (fun b => if b = a then none else F1 b) H1 σ ∧ Same (fun b => if b = a then none else F1 b) F1 ∧ ∀ b xs, F1 b = some (.tup xs) → (fun b => if b = a then none else F1 b) b = some (.tup xs) := by
  have fu : F1 a = some u := g1.ff _ _ upd_same
  have hu : H1 a = some u := g1.fh _ _ fu
  have no : ∀ xs, u ≠ .tup xs := ω.obj o
  have s2 : Same (fun b => if b = a then none else F1 b) F1 := fun b o z => by
    by_cases w : b = a
    · simp only [if_pos w] at z; cases z
    · simp only [if_neg w] at z; exact z
  have tt : ∀ b xs, F1 b = some (.tup xs) → (fun b => if b = a then none else F1 b) b = some (.tup xs) := fun b xs z => by
    have w : b ≠ a := fun w => by subst w; rw [fu] at z; exact no xs (Option.some.inj z)
    simp only [if_neg w]
    exact z
  have ff : Same F (fun b => if b = a then none else F1 b) := fun b o z => by
    have w : b ≠ a := fun w => by subst w; rw [e2] at z; cases z
    simp only [if_neg w]
    exact g1.ff _ _ (by rw [upd_ne w]; exact z)
  refine ⟨⟨ff, s2.trans g1.fh, fun b o z => ?_, g1.keep, g1.dom⟩, ⟨by rw [List.length_set]; exact hh1.len, fun j sl o' k1 k2 => ?_, fun j l ω1 ω2 f1 f2 q n k1 k2 k3 => ?_⟩, s2, tt⟩
  · by_cases w : b = a
    · simp only [if_pos w] at z; cases z
    · simp only [if_neg w] at z
      rcases g1.fresh b o z with y | y
      · rw [upd_ne w] at y; exact .inl y
      · exact .inr y
  · rcases get_set1 k1 with ⟨rfl, rfl, _⟩ | ⟨n, k1⟩
    · rw [e1] at k2; cases k2
      exact ⟨a, u, rfl, by simp, hu, ω.mono ff o⟩
    · by_cases hj : j ∈ ms
      · obtain ⟨ω', f', k3, lo⟩ := lf.all j hj
        rw [k1] at k3; cases k3
        obtain ⟨p, u', r1, r2, r3, r4⟩ := hh1.at_ j _ o' k1 k2
        refine ⟨p, u', r1, ?_, r3, lo F1 _ u' _ tt r4⟩
        cases y : (fun b => if b = a then none else F1 b) p with
        | none => rfl
        | some o => rw [s2 _ _ y] at r2; cases r2
      · have k4 : Δ[j]? = some sl := by
          have := d.out j hj
          rw [List.getElem?_set_ne n] at this
          rw [← this]; exact k1
        have r := hh.at_ j sl o' k4 k2
        cases sl with
        | dead => trivial
        | fz τ g => obtain ⟨v, r1, r2⟩ := r; exact ⟨v, r1, τ.mono ff r2⟩
        | ow ω2 g =>
          obtain ⟨p, u', r1, r2, r3, r4⟩ := r
          obtain ⟨p', u'', t1, t2, t3, t4⟩ := hh1.at_ j _ o' k1 k2
          rw [r1] at t1; cases t1
          have nb : ¬ MsAt ms σ p := fun ⟨l, hl, e⟩ => by
            obtain ⟨ω', f', k5⟩ := hm.all l hl
            exact hh.sep j l ω2 ω' g f' p (fun z => hj (z ▸ hl)) k4 k5 (by rw [k2, r1]) e
          refine ⟨p, u', r1, ?_, g1.keep _ _ r3 nb, ω2.mono ff r4⟩
          cases y : (fun b => if b = a then none else F1 b) p with
          | none => rfl
          | some o => rw [s2 _ _ y] at t2; cases t2
  · have up : ∀ {j : Nat} {ω1 : OTy K} {f1 : S → ω1.τ.α}, (Δ1.set i (.ow ω f))[j]? = some (.ow ω1 f1) → ∃ (ω' : OTy K) (f' : S → ω'.τ.α), Δ[j]? = some (.ow ω' f') := fun {j ω1 f1} k => by
      rcases get_set1 k with ⟨rfl, _, _⟩ | ⟨n, k⟩
      · exact ⟨_, _, h⟩
      · obtain ⟨ω', f', k'⟩ := d.own j _ _ k
        rcases get_set1 k' with ⟨z, _, _⟩ | ⟨_, k'⟩
        · exact absurd z n
        · exact ⟨_, _, k'⟩
    obtain ⟨_, _, w1⟩ := up k1
    obtain ⟨_, _, w2⟩ := up k2
    exact hh.sep j l _ _ _ _ q n w1 w2 k3
theorem diff_lend {f : S → ω.τ.α} (h : Δ[i]? = some (.ow ω f)) (him : i ∉ ms) (d : Diff ms (Δ.set i (.fz ω.τ f)) Δ1) : Diff ms Δ (Δ1.set i (.ow ω f)) := by
  refine ⟨by rw [List.length_set, d.len, List.length_set], fun k hk => ?_, fun k ω1 f1 e => ?_⟩
  · by_cases z : i = k
    · subst z
      rw [List.getElem?_set_self (by rw [d.len, List.length_set]; exact (List.getElem?_eq_some_iff.mp h).1), h]
    · rw [List.getElem?_set_ne z, d.out k hk, List.getElem?_set_ne z]
  · rcases get_set1 e with ⟨rfl, _, _⟩ | ⟨n, e⟩
    · exact ⟨_, _, h⟩
    · obtain ⟨ω', f', k'⟩ := d.own k _ _ e
      rcases get_set1 k' with ⟨z, _, _⟩ | ⟨_, k'⟩
      · exact absurd z n
      · exact ⟨_, _, k'⟩
theorem DX.borrowE (i : Nat) {f : S → ω.τ.α} {g : S → τ.α} (h : Δ[i]? = some (.ow ω f)) (he : DX K X (Δ.set i (.fz ω.τ f)) e τ ms c1 Δ1 g ta) (lf : LF τ) (him : i ∉ ms) (hm : OwnAll Δ ms) (lm : LfAll Δ1 ms) : DX K X Δ e τ ms c1 (Δ1.set i (.ow ω f)) g ta := by
  obtain ⟨d, p, r⟩ := he
  refine ⟨diff_lend h him d, p, fun s F H σ hh sm hc Q q => ?_⟩
  obtain ⟨a, u, e1, e2, e3, o⟩ := own_at hh h
  refine r s _ H σ (hh.freeze h e1 e3 e2) (grs_freeze (mus := []) hh sm h e1 e3 e2).fh hc Q fun v F1 H1 g1 hh1 r1 => ?_
  obtain ⟨k1, k2, k3, k4⟩ := unlend hh h e1 e2 e3 o him hm d lm g1 hh1
  exact q v _ H1 k1 k2 (lf F1 _ v _ k4 r1)
theorem DO.borrowE (i : Nat) {f : S → ω.τ.α} {g : S → ω1.τ.α} (h : Δ[i]? = some (.ow ω f)) (he : DO K X (Δ.set i (.fz ω.τ f)) e ω1 ms c1 Δ1 g ta) (lf : LFo ω1) (him : i ∉ ms) (hm : OwnAll Δ ms) (lm : LfAll Δ1 ms) : DO K X Δ e ω1 ms c1 (Δ1.set i (.ow ω f)) g ta := by
  obtain ⟨d, p, r⟩ := he
  refine ⟨diff_lend h him d, p, fun s F H σ hh sm hc Q q => ?_⟩
  obtain ⟨a, u, e1, e2, e3, o⟩ := own_at hh h
  refine r s _ H σ (hh.freeze h e1 e3 e2) (grs_freeze (mus := []) hh sm h e1 e3 e2).fh hc Q fun p1 u1 F1 H1 g1 hh1 n1 n2 n3 o1 => ?_
  obtain ⟨k1, k2, k3, k4⟩ := unlend hh h e1 e2 e3 o him hm d lm g1 hh1
  refine q p1 u1 _ H1 k1 k2 n1 ?_ n3 (lf F1 _ _ _ k4 o1)
  show (if p1 = a then none else F1 p1) = none
  rw [n2]
  exact ite_self _
theorem DT.borrowE (i : Nat) {f : S → ω.τ.α} {g : S → Bool} (h : Δ[i]? = some (.ow ω f)) (he : DT K X (Δ.set i (.fz ω.τ f)) e ms c1 Δ1 g tx) (him : i ∉ ms) (hm : OwnAll Δ ms) (lm : LfAll Δ1 ms) : DT K X Δ e ms c1 (Δ1.set i (.ow ω f)) g tx := by
  obtain ⟨d, p, r⟩ := he
  refine ⟨diff_lend h him d, p, fun s F H σ hh sm hc Q q => ?_⟩
  obtain ⟨a, u, e1, e2, e3, o⟩ := own_at hh h
  refine r s _ H σ (hh.freeze h e1 e3 e2) (grs_freeze (mus := []) hh sm h e1 e3 e2).fh hc Q fun F1 H1 g1 hh1 => ?_
  obtain ⟨k1, k2, k3, k4⟩ := unlend hh h e1 e2 e3 o him hm d lm g1 hh1
  exact q _ H1 k1 k2

/-! #### built-ins -/
theorem DX.call1 {id : String} {r : List V → Hp → VK → Prop} {px : Pos} {f : S → τ.α} {cc : List (τ.α → Prop)} {g : τ.α → τ1.α} (hcr : CallR X (.builtin id) r) (hr : ∀ v x F H, Same F H → τ.rep F v x → ConjC (cc.map fun c y (_ : Unit) => c y) x () → ∀ Q : VK, (∀ z F' H', Gr No F H F' H' → τ1.rep F' z (g x) → Q z H') → r [v] H Q) (hm : X.mg x = none) (hv : bootBuiltins x = some (.builtin id)) (he : DX K X Δ e τ ms c1 Δ1 f ta)
    (hg : Gl X x := by rfl) (hn : x ≠ "__name__" := by decide) (hdb : (x == ("__debug__" : Str)) = false := by decide) (hs : starEach [e] X.env = (false, eval e X.env) :: starEach [] X.env := by rfl) (hpl : (backTo pos (starEach [] X.env)).any (·.1) = false := by rfl) :
    DX K X Δ (.Call (.Name x px) [e] [] pos) τ1 ms (c1 ++ cc.map fun c s => c (f s)) Δ1 (fun s => g (f s)) (tCB r (tCons ta tNil)) := by
  obtain ⟨d1, p, q1⟩ := he
  refine ⟨d1, pe_callB hcr hg hm hv (pa_cons p pa_nil hs) hn hdb hs hpl, fun s F H σ hh sm hc Q q => ?_⟩
  obtain ⟨k1, k2⟩ := conj_app hc
  refine q1 s F H σ hh sm k1 _ fun v F1 H1 g1 hh1 r1 => hr v (f s) F1 H1 g1.fh r1 ?_ Q fun z F2 H2 g2 r2 => q z F2 H2 (g1.trans g2.of0) (hh1.grow g2) r2
  have : ∀ {cc : List (τ.α → Prop)}, Conj (cc.map fun c s => c (f s)) s → ConjC (cc.map fun c y (_ : Unit) => c y) (f s) () := by
    intro cc
    induction cc with
    | nil => intro _; trivial
    | cons c cc ih => intro h; exact ⟨h.1, ih h.2⟩
  exact this k2
/-- len of a list; of a text -/
theorem DX.len {to : L.α → List τ.α} {px : Pos} {f : S → L.α} (hl : LL L τ to) (hm : X.mg "len" = none) (he : DX K X Δ e L ms c1 Δ1 f ta) (hK : X.K = K := by rfl) (hg : Gl X "len" := by rfl) (hs : starEach [e] X.env = (false, eval e X.env) :: starEach [] X.env := by rfl) (hpl : (backTo pos (starEach [] X.env)).any (·.1) = false := by rfl) :
    DX K X Δ (.Call (.Name "len" px) [e] [] pos) (tInt K) ms (c1 ++ []) Δ1 (fun s => ((to (f s)).length : Int)) (tCB (fun xs H Q => ∃ p ys, xs = [.ref p] ∧ (SqL K H p ys ∨ SqT K H p ys) ∧ Q (.int ys.length) H) (tCons ta tNil)) := by
  subst hK
  exact DX.call1 (τ1 := tInt X.K) (cc := []) (g := fun x => ((to x).length : Int)) call_len_seq (fun v x F H sm r _ Q q => by
    obtain ⟨a, vs, ev, sq, pr, _⟩ := hl r
    exact ⟨a, vs, by rw [ev], .inl (sm.seq sq), q _ F H (Gr.refl sm) (by rw [pr.length])⟩) hm PySem.boot_len he hg (by decide) (by decide) hs hpl
/-- repr -/
def rRepr (K : PySem.W.Frag) : List V → Hp → VK → Prop := fun xs H Q => ∃ x d, xs = [x] ∧ Dp K H x d ∧ d.showable = true ∧ d.hasDict = false ∧ d.depth ≤ 64 ∧ d.shown.length ≤ sizeLine ∧ Q (.str d.shown) H
theorem call_repr_d {k : Nat} (hr : RoomG k X.A) : CallR X (.builtin "repr") (rRepr X.K) := by
  intro pins s σ H xs us Q I r h
  obtain ⟨x, d, rfl, hd, h1, h2, h3, h4, q⟩ := h
  obtain ⟨u, rfl, ru⟩ := vals1 r
  cases hd with
  | non =>
    obtain rfl : u = Value.none := ru
    exact PySem.P.repr_of_none ⟨.str _, H, I.tok _, ⟨_, rfl⟩, q⟩
  | bl b =>
    obtain rfl : u = Value.bool b := ru
    exact PySem.P.repr_of_bool ⟨.str _, H, I.tok _, ⟨_, rfl⟩, q⟩
  | int i =>
    obtain ⟨t, rfl⟩ := ru
    exact PySem.P.repr_of_int (of_decide_eq_true h1) ⟨.str _, H, I.tok _, ⟨_, rfl⟩, q⟩
  | str z =>
    obtain ⟨t, rfl⟩ := ru
    exact PySem.P.repr_of_str ⟨.str _, H, I.tok _, ⟨_, rfl⟩, q⟩ h4
  | @lst a xs ds sq al =>
    obtain ⟨as, rd⟩ := Dp.reads I (.list ds) (.ref a) u (.lst sq al) ru
    obtain rfl : u = Value.ref a := ru
    have hu := hr.rm.un
    exact repr_of_reads' rd h1 (fun e => by rw [h2] at e; cases e) hr.gd (by omega) (fun _ _ e => e) (fun h' w tk hk => ⟨.str _, H, I.kept hk, ⟨_, rfl⟩, q⟩) h4
  | @tup a xs ds sq al =>
    obtain ⟨as, rd⟩ := Dp.reads I (.tuple ds) (.ref a) u (.tup sq al) ru
    obtain rfl : u = Value.ref a := ru
    have hu := hr.rm.un
    exact repr_of_reads' rd h1 (fun e => by rw [h2] at e; cases e) hr.gd (by omega) (fun _ _ e => e) (fun h' w tk hk => ⟨.str _, H, I.kept hk, ⟨_, rfl⟩, q⟩) h4
theorem DX.repr {k : Nat} {d : DF τ.α} {px : Pos} {f : S → τ.α} (hr : RoomG k X.A) (hd : Dat τ d) (hm : X.mg "repr" = none) (he : DX K X Δ e τ ms c1 Δ1 f ta) (hn : d.n ≤ 64 := by decide) (hK : X.K = K := by rfl) (hg : Gl X "repr" := by rfl) (hs : starEach [e] X.env = (false, eval e X.env) :: starEach [] X.env := by rfl) (hpl : (backTo pos (starEach [] X.env)).any (·.1) = false := by rfl) :
    DX K X Δ (.Call (.Name "repr" px) [e] [] pos) (tTxt K) ms (c1 ++ [fun s => ShowOk d (f s)]) Δ1 (fun s => reprOf d (f s)) (tCB (rRepr K) (tCons ta tNil)) := by
  subst hK
  exact DX.call1 (τ1 := tTxt X.K) (cc := [ShowOk d]) (g := fun x => reprOf d x) (call_repr_d hr) (fun v x F H sm r hc Q q => ⟨v, d.toD x, rfl, hd.dp (τ.mono sm r), hc.1.1, hd.pl.nodict x, Nat.le_trans (hd.pl.dep x) hn, hc.1.2, q _ F H (Gr.refl sm) rfl⟩) hm (by decide +kernel) he hg (by decide) (by decide) hs hpl
/-- texts compared (repr) -/
theorem DX.eqT {f g : S → Str} (ha : DX K X Δ a (tTxt K) m1 c1 Δ1 f ta) (hb : DX K X Δ1 b (tTxt K) m2 c2 Δ2 g tb) : DX K X Δ (.Compare a [.Eq] [b] pos) (tBool K) (m1 ++ m2) (c1 ++ (c2 ++ [])) Δ2 (fun s => decide (f s = g s)) (tOp rEq ta tb) :=
  DX.bin (τ := tBool K) (cc := []) (g := fun (x y : Str) => decide (x = y)) (fun x y v u F H sm r1 r2 _ Q q => by
    subst r1 r2
    exact ⟨rfl, q _ F H (Gr.refl sm) (by simp)⟩) ha hb fun p q => pe_cmpR op_eq p q (nomark _)
theorem DT.eqT {f g : S → Str} (ha : DX K X Δ a (tTxt K) m1 c1 Δ1 f ta) (hb : DX K X Δ1 b (tTxt K) m2 c2 Δ2 g tb) : DT K X Δ (.Compare a [.Eq] [b] pos) (m1 ++ m2) (c1 ++ (c2 ++ [])) Δ2 (fun s => decide (f s = g s)) (tTest (tOp rEq ta tb)) :=
  DT.bin (cc := []) (g := fun (x y : Str) => decide (x = y)) (fun x y v u F H sm r1 r2 _ Q q => by
    subst r1 r2
    exact ⟨rfl, q _ F H (Gr.refl sm) (by simp)⟩) ha hb fun p q => pt_cmpR op_eq p q (nomark _)
/-- max, min of two ints -/
theorem DX.max2 {f g : S → Int} {px : Pos} (hm : X.mg "max" = none) (ha : DX K X Δ a (tInt K) m1 c1 Δ1 f ta) (hb : DX K X Δ1 b (tInt K) m2 c2 Δ2 g tb) (hc : X.calm = true := by rfl) (hg : Gl X "max" := by rfl) (hs : starEach [a, b] X.env = (false, eval a X.env) :: starEach [b] X.env := by rfl) (hs2 : starEach [b] X.env = (false, eval b X.env) :: starEach [] X.env := by rfl) (hpl : (backTo pos (starEach [b] X.env)).any (·.1) = false := by rfl) :
    DX K X Δ (.Call (.Name "max" px) [a, b] [] pos) (tInt K) (m1 ++ m2) (c1 ++ c2) Δ2 (fun s => max (f s) (g s)) (tCB (fun xs H Q => ∃ i j, xs = [.int i, .int j] ∧ Q (.int (if j > i then j else i)) H) (tCons ta (tCons tb tNil))) := by
  obtain ⟨d1, p, r⟩ := ha
  obtain ⟨d2, p2, r2⟩ := hb
  refine ⟨d1.trans d2, pe_callB (call_max2 hc) hg hm (by decide +kernel) (pa_cons p (pa_cons p2 pa_nil hs2) hs) (by decide) (by decide) hs hpl, fun s F H σ hh sm hc Q q => ?_⟩
  obtain ⟨k1, k2⟩ := conj_app hc
  refine r s F H σ hh sm k1 _ fun v F1 H1 g1 hh1 r1 => r2 s F1 H1 σ hh1 g1.fh k2 _ fun w F2 H2 g2 hh2 r3 => ⟨f s, g s, by rw [show v = .int (f s) from r1, show w = .int (g s) from r3], ?_⟩
  refine q _ F2 H2 ((g1.mono (msAt_l (m2 := m2))).trans (g2.mono (msAt_r (m1 := m1)))) hh2 (congrArg V.int (show (if g s > f s then g s else f s) = max (f s) (g s) by omega))
theorem DX.min2 {f g : S → Int} {px : Pos} (hm : X.mg "min" = none) (ha : DX K X Δ a (tInt K) m1 c1 Δ1 f ta) (hb : DX K X Δ1 b (tInt K) m2 c2 Δ2 g tb) (hc : X.calm = true := by rfl) (hg : Gl X "min" := by rfl) (hs : starEach [a, b] X.env = (false, eval a X.env) :: starEach [b] X.env := by rfl) (hs2 : starEach [b] X.env = (false, eval b X.env) :: starEach [] X.env := by rfl) (hpl : (backTo pos (starEach [b] X.env)).any (·.1) = false := by rfl) :
    DX K X Δ (.Call (.Name "min" px) [a, b] [] pos) (tInt K) (m1 ++ m2) (c1 ++ c2) Δ2 (fun s => min (f s) (g s)) (tCB (fun xs H Q => ∃ i j, xs = [.int i, .int j] ∧ Q (.int (if j < i then j else i)) H) (tCons ta (tCons tb tNil))) := by
  obtain ⟨d1, p, r⟩ := ha
  obtain ⟨d2, p2, r2⟩ := hb
  refine ⟨d1.trans d2, pe_callB (call_min2 hc) hg hm (by decide +kernel) (pa_cons p (pa_cons p2 pa_nil hs2) hs) (by decide) (by decide) hs hpl, fun s F H σ hh sm hc Q q => ?_⟩
  obtain ⟨k1, k2⟩ := conj_app hc
  refine r s F H σ hh sm k1 _ fun v F1 H1 g1 hh1 r1 => r2 s F1 H1 σ hh1 g1.fh k2 _ fun w F2 H2 g2 hh2 r3 => ⟨f s, g s, by rw [show v = .int (f s) from r1, show w = .int (g s) from r3], ?_⟩
  refine q _ F2 H2 ((g1.mono (msAt_l (m2 := m2))).trans (g2.mono (msAt_r (m1 := m1)))) hh2 (congrArg V.int (show (if g s < f s then g s else f s) = min (f s) (g s) by omega))
end
end Dx

/-! Dx, part I: calls that hand back an own object, lists put together, two stores at once, the law's end. -/
namespace Dx
open PySem PySem.Spec PyProof.Rows L2
section
variable {K : PySem.W.Frag} {X : Cx} {S R R' : Type} {Δ Δ1 Δ2 Δ3 : Ctx K S} {st : Stmt} {e a b c tg iter elt : Expr} {es ifs : List Expr} {pos p' apos : Pos} {τ τe τ1 τ2 L L2' : Ty K} {ω ω1 ω2 : OTy K} {mus ms m1 m2 is vs : List Nat} {c1 c2 c3 cs : List (S → Prop)} {ta tb te : TE} {tt tx : TT} {tl : TA} {i j : Nat} {x y : Str} {fm : Fm K R'}
/-- a call's worth, whatever it hands back -/
def DC (K : PySem.W.Frag) (X : Cx) (Δ : Ctx K S) (e : Expr) {R' : Type} (fm : Fm K R') (ms : List Nat) (cs : List (S → Prop)) (Δ1 : Ctx K S) (z : S → R') (t : TE) : Prop :=
  Diff ms Δ Δ1 ∧ PE X e t ∧ ∀ s F H σ, Holds Δ s F H σ → Same F H → Conj cs s → ∀ Q : VK, (∀ v F' H', Gr (MsAt ms σ) F H F' H' → Holds Δ1 s F' H' σ → RetOk (fun q => H q = none) F' H' fm.ret v (fm.res (z s)) → Q v H') → t σ H Q
theorem DX.ofC {z : S → R'} {fr : S → τ.α} (h : DC K X Δ e fm ms cs Δ1 z ta) (hret : fm.ret = .fz τ) (hf : ∀ s, HEq (fm.res (z s)) (fr s)) : DX K X Δ e τ ms cs Δ1 fr ta :=
  ⟨h.1, h.2.1, fun s F H σ hh sm hc Q q => h.2.2 s F H σ hh sm hc Q fun v F1 H1 g hh1 ro => q v F1 H1 g hh1 (by
    have := hf s
    revert this ro
    generalize fm.res (z s) = w
    revert w
    rw [hret]
    intro w ro hz
    rw [← eq_of_heq hz]
    exact ro)⟩
theorem DO.ofC {z : S → R'} {fr : S → ω.τ.α} (h : DC K X Δ e fm ms cs Δ1 z ta) (hret : fm.ret = .ow ω) (hf : ∀ s, HEq (fm.res (z s)) (fr s)) : DO K X Δ e ω ms cs Δ1 fr ta :=
  ⟨h.1, h.2.1, fun s F H σ hh sm hc Q q => h.2.2 s F H σ hh sm hc Q fun v F1 H1 g hh1 ro => by
    have := hf s
    revert this ro
    generalize fm.res (z s) = w
    revert w
    rw [hret]
    intro w ro hz
    rw [eq_of_heq hz] at ro
    obtain ⟨p, u, rfl, n1, n2, e1, o1⟩ := ro
    exact q p u F1 H1 g hh1 n1 n2 e1 o1⟩
theorem up_diff {ps : List (PK K)} {r : S → HM ps} {as : List (AK K S)} (u : Up Δ as ps r Δ2) : OwnAll Δ (lent as) → Diff (lent as) Δ Δ2 := by
  induction u with
  | nil => intro _; exact Diff.refl
  | fz _ ih => exact ih
  | @mu Δ Δ1 j ω as ps r t ih =>
    rintro ⟨⟨ω0, f0, h0⟩, ow⟩
    have back : ∀ {i : Nat} {ω1 : OTy K} {f1 : S → ω1.τ.α}, Δ[i]? = some (.ow ω1 f1) → ∃ (ω' : OTy K) (f' : S → ω'.τ.α), (Δ.set j (.ow ω fun s => (r s).1))[i]? = some (.ow ω' f') := fun {i ω1 f1} e => by
      by_cases z : j = i
      · subst z
        exact ⟨_, _, List.getElem?_set_self (List.getElem?_eq_some_iff.mp e).1⟩
      · exact ⟨_, _, by rw [List.getElem?_set_ne z]; exact e⟩
    have ow' : ∀ {l : List Nat}, OwnAll Δ l → OwnAll (Δ.set j (.ow ω fun s => (r s).1)) l := by
      intro l
      induction l with
      | nil => intro _; trivial
      | cons a l ih2 =>
        rintro ⟨⟨_, _, w⟩, w2⟩
        exact ⟨back w, ih2 w2⟩
    have d0 : Diff [j] Δ (Δ.set j (.ow ω fun s => (r s).1)) := ⟨List.length_set .., fun i n => List.getElem?_set_ne fun z => n (by rw [z]; exact List.mem_singleton.mpr rfl), fun i ω1 f1 e => by
      rcases get_set1 e with ⟨rfl, _, _⟩ | ⟨_, e⟩
      · exact ⟨_, _, h0⟩
      · exact ⟨_, _, e⟩⟩
    exact d0.trans (ih (ow' ow))
theorem DC.call {k : Nat} {f : Addr} {fd : FuncData} {ps : List Str} {p : HP fm.ps → Prop} {fv : HP fm.ps → R'} {as : List (AK K S)} {g : S → HP fm.ps} {px : Pos} {t : TA} (G : FnG X.prog X.w K X.mg X.base CX0 k f fd ps (SpOf fm p fv)) (hr : RoomG k X.A) (hm : X.mg x = some (.ref f)) (hk : PySem.W.keepIn K (.ref f) = true) (hb : Binds K fd ps [])
    (ha : DA K X Δ (e :: es) m1 c1 Δ1 as t) (har : Ar Δ1 as fm.ps g) (hup : Up Δ1 as fm.ps (fun s => fm.mv (fv (g s))) Δ2) (hnd : (lent as).Nodup) (how : OwnAll Δ1 (lent as)) (hK : X.K = K := by rfl) (hg : Gl X x := by rfl) (hdb : (x == ("__debug__" : Str)) = false := by decide) (he : starEach (e :: es) X.env = (false, eval e X.env) :: starEach es X.env := by rfl) (hpl : (backTo pos (starEach es X.env)).any (·.1) = false := by rfl) :
    DC K X Δ (.Call (.Name x px) (e :: es) [] pos) fm (m1 ++ lent as) (c1 ++ [fun s => p (g s)]) Δ2 (fun s => fv (g s)) (tCall (SpOf fm p fv) [] E0 t) := by
  subst hK
  obtain ⟨d1, pa, ra⟩ := ha
  refine ⟨d1.trans (up_diff hup how), pe_callg G hr hg hm hk hb pass0 pa hdb he hpl, fun s F H σ hh sm hc Q q => ?_⟩
  obtain ⟨k1, k2, _⟩ := conj_app hc
  refine ra s F H σ hh sm k1 _ fun vs F1 H1 g1 hh1 r1 => ?_
  show SpOf fm p fv (vs ++ []) H1 Q E0
  rw [List.append_nil]
  obtain ⟨w1, w2⟩ := har.holds hh1 g1.fh r1 hnd
  refine ⟨F1, g s, w1, g1.fh, k2, fun v F2 H2 g2 ro mo => ?_⟩
  have g2' : Gr (MsAt (lent as) σ) F1 H1 F2 H2 := g2.mono fun a ⟨j, hj, e⟩ => har.muts 0 (us := []) rfl r1 j hj a e
  refine q v F2 H2 ((g1.mono (msAt_l (m2 := lent as))).trans (g2'.mono (msAt_r (m1 := m1)))) (hup.holds (k := 0) (us := []) rfl r1 hnd mo how.all hh1.len.symm (fun i sl o ni e1 e2 => ?_) hh1.sep).1 (ro.dom fun a h => g1.dom a h)
  have r := hh1.at_ i sl o e1 e2
  cases sl with
  | dead => trivial
  | fz τ f => obtain ⟨v, ev, rv⟩ := r; exact ⟨v, ev, τ.mono g2'.ff rv⟩
  | ow ω f =>
    obtain ⟨p1, u1, ev, n1, h1, o1⟩ := r
    subst ev
    have nl : ¬ MsAt (lent as) σ p1 := fun ⟨j, hj, e3⟩ => by
      obtain ⟨ω', f', e4⟩ := how.all j hj
      exact hh1.sep i j ω ω' f f' p1 (fun z => ni (z ▸ hj)) e1 e4 e2 e3
    refine ⟨p1, u1, rfl, ?_, g2'.keep _ _ h1 nl, ω.mono g2'.ff o1⟩
    cases y : F2 p1 with
    | none => rfl
    | some o' =>
      rcases g2'.fresh p1 o' y with z | z
      · rw [n1] at z; cases z
      · rw [h1] at z; cases z

/-! #### lists put together -/
def rCatS (K : PySem.W.Frag) : R2 := fun x y H Q => ∃ l b xs zs, x = .ref l ∧ y = .ref b ∧ SqL K H l xs ∧ SqL K H b zs ∧ xs.length + zs.length ≤ sizeLine ∧ ∀ p, H p = none → Q (.ref p) (upd H p (.lst (xs ++ zs)))
theorem op_catS : OpR X (binaryOp .Add) (rCatS X.K) := by
  intro pins s σ H x y v u Q I rx ry h
  obtain ⟨l, b, xs, zs, rfl, rfl, hx, hz, hs, q⟩ := h
  cases rx
  cases ry
  obtain ⟨its, r, ⟨⟨cl, dd, da, sl⟩, n, ho, hc, hd0, hd⟩, _⟩ := I.list hx
  obtain ⟨its2, r2, ⟨⟨cl2, dd2, da2, sl2⟩, n2, ho2, hc2, hd02, hd2⟩, _⟩ := I.list hz
  simp only at hc hd hc2 hd2
  subst hc hd hc2 hd2
  have e : its.toArray ++ its2.toArray = (its ++ its2).toArray := by simp
  refine concat_meets ⟨_, ho, rfl⟩ ⟨_, ho2, rfl⟩ noFill_list_add seq_list_add PySem.F.slot_list_add PySem.F.entry_list_add (PySem.F.args_list_add_2 _ _) (PyProof.Rows.list_addW l b its.toArray its2.toArray n n2 dd dd2 sl sl2 (by rw [List.size_toArray, List.size_toArray, ← r.length, ← r2.length]; exact hs)) ⟨ho, ho2, ?_⟩
  rw [e]
  exact ⟨.ref _, _, I.lnew (t' := s.toks) (r.append r2) (by rw [List.length_append]; omega), rfl, q _ I.fresh⟩
theorem DO.cat {to : L.α → List τ.α} {to1 : L2'.α → List τ.α} {f : S → L.α} {g : S → L2'.α} (hl : LL L τ to) (hl1 : LL L2' τ to1) (ha : DX K X Δ a L m1 c1 Δ1 f ta) (hb : DX K X Δ1 b L2' m2 c2 Δ2 g tb) (hK : X.K = K := by rfl) : DO K X Δ (.BinOp a .Add b pos) (oList τ) (m1 ++ m2) (c1 ++ (c2 ++ [fun s => (to (f s)).length + (to1 (g s)).length ≤ sizeLine])) Δ2 (fun s => to (f s) ++ to1 (g s)) (tOp (rCatS K) ta tb) := by
  subst hK
  exact DO.bin (ω := oList τ) (cc := [fun x y => (to x).length + (to1 y).length ≤ sizeLine]) (g := fun x y => to x ++ to1 y) (fun x y v u F H sm r1 r2 hc Q q => by
    obtain ⟨a, vs, e1, s1, p1, z1⟩ := hl r1
    obtain ⟨b, ws, e2, s2, p2, z2⟩ := hl1 r2
    refine ⟨a, b, vs, ws, e1, e2, sm.seq s1, sm.seq s2, by rw [p1.length, p2.length]; exact hc.1, fun p n => q p _ n ⟨_, rfl, paired_app p1 p2, ?_⟩⟩
    rw [List.length_append]
    exact hc.1) ha hb fun p q => pe_op op_catS p q
theorem paired_flat {α β : Type} {R : α → β → Prop} {xs : List α} {ys : List β} (h : Paired R xs ys) : ∀ n : Nat, Paired R (List.replicate n xs).flatten (List.replicate n ys).flatten
  | 0 => .nil
  | n + 1 => by
    rw [List.replicate_succ, List.replicate_succ, List.flatten_cons, List.flatten_cons]
    exact paired_app h (paired_flat h n)
def repL {α : Type} (xs : List α) (n : Int) : List α := (List.replicate n.toNat xs).flatten
def RepOk {α : Type} (xs : List α) (n : Int) : Prop := -(2 ^ 63) ≤ n ∧ n < 2 ^ 63 ∧ xs.length * n.toNat ≤ sizeLine
theorem repL_len {α : Type} (xs : List α) (n : Int) : (repL xs n).length = xs.length * n.toNat := by
  unfold repL
  rw [List.length_flatten, List.map_replicate, List.sum_replicate_nat, Nat.mul_comm]
theorem DO.rep {f : S → List τ.α} {g : S → Int} (ha : DX K X Δ a (tList τ) m1 c1 Δ1 f ta) (hb : DX K X Δ1 b (tInt K) m2 c2 Δ2 g tb) : DO K X Δ (.BinOp a .Mult b pos) (oList τ) (m1 ++ m2) (c1 ++ (c2 ++ [fun s => RepOk (f s) (g s)])) Δ2 (fun s => repL (f s) (g s)) (tOp rRep ta tb) :=
  DO.bin (τa := tList τ) (τb := tInt K) (ω := oList τ) (cc := [fun x y => RepOk x y]) (g := fun x y => repL x y) (fun x y v u F H sm r1 r2 hc Q q => by
    obtain ⟨a, vs, e1, s1, p1, z1⟩ := r1
    obtain ⟨h1, h2, h3⟩ := hc.1
    refine ⟨a, y, vs, e1, r2, sm _ _ s1, h1, h2, by rw [p1.length]; exact h3, fun p n => q p _ n ⟨_, rfl, paired_flat p1 _, ?_⟩⟩
    rw [repL_len]
    exact h3) ha hb fun p q => pe_op op_rep p q
/-- a part of a slice -/
def DPo (K : PySem.W.Frag) (X : Cx) (Δ : Ctx K S) (o : Option Expr) (ms : List Nat) (cs : List (S → Prop)) (Δ1 : Ctx K S) (f : S → Option Int) (t : TO) : Prop :=
  Diff ms Δ Δ1 ∧ PO X o t ∧ ∀ s F H σ, Holds Δ s F H σ → Same F H → Conj cs s → ∀ Q : Option Int → Hp → Prop, (∀ F' H', Gr (MsAt ms σ) F H F' H' → Holds Δ1 s F' H' σ → Q (f s) H') → t σ H Q
theorem DPo.none : DPo K X Δ none [] [] Δ (fun _ => none) tNoPart := ⟨Diff.refl, po_none, fun s F H σ hh sm _ Q q => q F H (Gr.refl sm) hh⟩
theorem DPo.some {f : S → Int} (h : DX K X Δ e (tInt K) ms c1 Δ1 f ta) : DPo K X Δ (some e) ms c1 Δ1 (fun s => some (f s)) (tPart ta) :=
  ⟨h.1, po_some h.2.1, fun s F H σ hh sm hc Q q => h.2.2 s F H σ hh sm hc _ fun v F1 H1 g hh1 r => ⟨f s, r, q F1 H1 g hh1⟩⟩
def cutL {α : Type} (xs : List α) (lo hi : Option Int) : List α := (xs.drop (HT.sIx xs.length 0 lo)).take (HT.sIx xs.length xs.length hi - HT.sIx xs.length 0 lo)
theorem paired_drop {α β : Type} {R : α → β → Prop} : ∀ {xs : List α} {ys : List β} (n : Nat), Paired R xs ys → Paired R (xs.drop n) (ys.drop n)
  | _, _, 0, h => h
  | _, _, n + 1, .nil => .nil
  | _, _, n + 1, .cons _ t => paired_drop n t
theorem paired_take {α β : Type} {R : α → β → Prop} : ∀ {xs : List α} {ys : List β} (n : Nat), Paired R xs ys → Paired R (xs.take n) (ys.take n)
  | _, _, 0, _ => .nil
  | _, _, n + 1, .nil => .nil
  | _, _, n + 1, .cons r t => .cons r (paired_take n t)
theorem cutL_len {α : Type} (xs : List α) (lo hi : Option Int) : (cutL xs lo hi).length ≤ xs.length := by
  unfold cutL
  rw [List.length_take, List.length_drop]
  omega
theorem DO.sl {to : L.α → List τ.α} {f : S → L.α} {lo hi : Option Expr} {flo fhi : S → Option Int} {tlo thi : TO} {p2 : Pos} (hl : LL L τ to) (ha : DX K X Δ a L m1 c1 Δ1 f ta) (h1 : DPo K X Δ1 lo m2 c2 Δ2 flo tlo) (h2 : DPo K X Δ2 hi ms c3 Δ3 fhi thi) (hK : X.K = K := by rfl) : DO K X Δ (.Subscript a (.Slice lo hi none p2) pos) (oList τ) (m1 ++ (m2 ++ ms)) (c1 ++ (c2 ++ c3)) Δ3 (fun s => cutL (to (f s)) (flo s) (fhi s)) (tSl (rSlL K) ta tlo thi) := by
  subst hK
  obtain ⟨d1, p1, r1⟩ := ha
  obtain ⟨d2, q2, r2⟩ := h1
  obtain ⟨d3, q3, r3⟩ := h2
  refine ⟨d1.trans (d2.trans d3), pe_slice sl_list p1 q2 q3, fun s F H σ hh sm hc Q q => ?_⟩
  obtain ⟨k1, k2⟩ := conj_app hc
  obtain ⟨k2, k3⟩ := conj_app k2
  refine r1 s F H σ hh sm k1 _ fun v F1 H1 g1 hh1 w1 => r2 s F1 H1 σ hh1 g1.fh k2 _ fun F2 H2 g2 hh2 => r3 s F2 H2 σ hh2 g2.fh k3 _ fun F3 H3 g3 hh3 => ?_
  obtain ⟨a, vs, ev, sq, pr, z⟩ := hl (L.mono (g2.ff.trans g3.ff) w1)
  refine ⟨a, vs, ev, g3.fh.seq sq, fun p n => ?_⟩
  have ec : (cutV vs (flo s) (fhi s)) = (vs.drop (HT.sIx (to (f s)).length 0 (flo s))).take (HT.sIx (to (f s)).length (to (f s)).length (fhi s) - HT.sIx (to (f s)).length 0 (flo s)) := by
    unfold cutV
    rw [pr.length]
  have ow : (oList τ).own F3 (.lst (cutV vs (flo s) (fhi s))) (cutL (to (f s)) (flo s) (fhi s)) := ⟨_, rfl, by rw [ec]; exact paired_take _ (paired_drop _ pr), Nat.le_trans (cutL_len _ _ _) z⟩
  have g12 := (g1.mono (msAt_l (m2 := m2 ++ ms))).trans ((g2.mono (fun a h => msAt_r (m1 := m1) a (msAt_l (m2 := ms) a h))).trans (g3.mono fun a h => msAt_r (m1 := m1) a (msAt_r (m1 := m2) a h)))
  obtain ⟨g4, fn, e4⟩ := own_of_new (ω := oList τ) g3.fh n ow
  exact q p _ F3 _ (g12.trans g4.of0) (hh3.grow g4) (g12.dom p n) fn e4 ow

/-! #### two names stored at once -/
/-- a value fit for a slot -/
def Fit (F H : Hp) (s : S) (v : V) : Slot K S → Prop
  | .dead => True
  | .fz τ f => τ.rep F v (f s)
  | .ow ω f => ∃ p u, v = .ref p ∧ F p = none ∧ H p = some u ∧ ω.own F u (f s)
def DV (K : PySem.W.Frag) (X : Cx) (Δ : Ctx K S) (e : Expr) (sl : Slot K S) (ms : List Nat) (cs : List (S → Prop)) (Δ1 : Ctx K S) (t : TE) : Prop :=
  Diff ms Δ Δ1 ∧ PE X e t ∧ ∀ s F H σ, Holds Δ s F H σ → Same F H → Conj cs s → ∀ Q : VK, (∀ v F' H', Gr (MsAt ms σ) F H F' H' → Holds Δ1 s F' H' σ → Fit F' H' s v sl → (∀ (ω : OTy K) (f : S → ω.τ.α) p, sl = .ow ω f → v = .ref p → H p = none) → Q v H') → t σ H Q
theorem DV.fz {f : S → τ.α} (h : DX K X Δ e τ ms c1 Δ1 f ta) : DV K X Δ e (.fz τ f) ms c1 Δ1 ta := ⟨h.1, h.2.1, fun s F H σ hh sm hc Q q => h.2.2 s F H σ hh sm hc Q fun v F1 H1 g hh1 r => q v F1 H1 g hh1 r fun _ _ _ z => nomatch z⟩
theorem DV.ow {f : S → ω.τ.α} (h : DO K X Δ e ω ms c1 Δ1 f ta) : DV K X Δ e (.ow ω f) ms c1 Δ1 ta := ⟨h.1, h.2.1, fun s F H σ hh sm hc Q q => h.2.2 s F H σ hh sm hc Q fun p u F1 H1 g hh1 n1 n2 e1 o1 => q _ F1 H1 g hh1 ⟨p, u, rfl, n2, e1, o1⟩ fun _ _ p' _ e => by cases e; exact n1⟩
theorem DS.par {sa sb : Slot K S} {px py pt : Pos} {kt k2 : Nat} {pt2 : Pos} (ha : DV K X Δ a sa m1 c1 Δ1 ta) (hb : DV K X Δ1 b sb m2 c2 Δ2 tb) (hm : OwnAll Δ (m1 ++ m2)) (hN : X.N.Nodup) (hi : X.N[i]? = some x) (hj : X.N[j]? = some y) (hij : i ≠ j) (hx : X.env.scope.names.lookup x = some .local) (hy : X.env.scope.names.lookup y = some .local) (hu : i ∉ mus) (hu2 : j ∉ mus)
    (hw : swappedStores [.Tuple [.Name x px, .Name y py] kt pt] (.Tuple [a, b] k2 pt2) X.env = pure (some [x, y]) := by rfl) (hc : X.calm = true := by rfl) (hsw : swapsWithSole [.Tuple [.Name x px, .Name y py] kt pt] (.Tuple [a, b] k2 pt2) pos.line X.env = pure false := by rfl)
    (hs : starEach [a, b] X.env = (false, eval a X.env) :: starEach [b] X.env := by rfl) (hs2 : starEach [b] X.env = (false, eval b X.env) :: starEach [] X.env := by rfl) :
    DS K X mus Δ (.Assign [.Tuple [.Name x px, .Name y py] kt pt] (.Tuple [a, b] k2 pt2) pos) (c1 ++ c2) ((Δ2.set i sa).set j sb) := by
  obtain ⟨d1, p1, r1⟩ := ha
  obtain ⟨d2, p2, r2⟩ := hb
  refine ⟨_, ps_par hc hN hi hj hij hx hy (pa_cons p1 (pa_cons p2 pa_nil hs2) hs) hw hsw, fun s F H σ hh sm hc D q => ?_⟩
  obtain ⟨k1, k2⟩ := conj_app hc
  refine r1 s F H σ hh sm k1 _ fun v F1 H1 g1 hh1 f1 n1 => r2 s F1 H1 σ hh1 g1.fh k2 _ fun w F2 H2 g2 hh2 f2 n2 => ⟨v, w, rfl, ?_⟩
  have g12 := (g1.mono (msAt_l (m2 := m2))).trans (g2.mono (msAt_r (m1 := m1)))
  have gs : GrS mus Δ σ Δ2 σ F H F2 H2 := gs0 hm (d1.trans d2) hh g12
  -- what was made first still fits
  have f1' : Fit F2 H2 s v sa := by
    cases sa with
    | dead => trivial
    | fz τ f => exact τ.mono g2.ff f1
    | ow ω f =>
      obtain ⟨p, u, e, z1, z2, z3⟩ := f1
      have hn := n1 ω f p rfl e
      refine ⟨p, u, e, ?_, g2.keep _ _ z2 fun ⟨k, hk, e3⟩ => ?_, ω.mono g2.ff z3⟩
      · cases y0 : F2 p with
        | none => rfl
        | some o =>
          rcases g2.fresh p o y0 with t | t
          · rw [z1] at t; cases t
          · rw [z2] at t; cases t
      · obtain ⟨ω', f', e4⟩ := hm.all k (List.mem_append_right _ hk)
        obtain ⟨p', u', e5, _, e6, _⟩ := hh.at_ k _ _ e4 e3
        cases e5
        rw [hn] at e6; cases e6
  have nown : ∀ p, H p = none → ¬ Own Δ2 σ p := fun p hn ⟨k, ω, f, e1, e2⟩ => ((d1.trans d2).was hh e1 e2).2 hn
  have hA : Holds (Δ2.set i sa) s F2 H2 (σ.set i (some v)) := by
    cases sa with
    | dead =>
      exact ⟨by rw [List.length_set, List.length_set]; exact hh2.len, fun k sl o e1 e2 => by
        rcases get_set1 e1 with ⟨_, z, _⟩ | ⟨n, e1⟩
        · subst z; trivial
        · rw [List.getElem?_set_ne n] at e2; exact hh2.at_ k sl o e1 e2, fun k l ω ω' f f' p n e1 e2 e3 => by
        rcases get_set1 e1 with ⟨_, z, _⟩ | ⟨n1, e1⟩
        · cases z
        · rcases get_set1 e2 with ⟨_, z, _⟩ | ⟨n2, e2⟩
          · cases z
          · rw [List.getElem?_set_ne n1] at e3
            rw [List.getElem?_set_ne n2]
            exact hh2.sep k l ω ω' f f' p n e1 e2 e3⟩
    | fz τ f => exact hh2.setF f1'
    | ow ω f =>
      obtain ⟨p, u, e, z1, z2, z3⟩ := f1'
      subst e
      exact hh2.setO z1 z2 z3 (nown p (n1 ω f p rfl rfl))
  have gA : GrS mus Δ σ (Δ2.set i sa) (σ.set i (some v)) F H F2 H2 := gs.set hu hh2.len.symm fun ω f p e1 e2 => n1 ω f p e1 (Option.some.inj e2)
  have gB : GrS mus Δ σ ((Δ2.set i sa).set j sb) ((σ.set i (some v)).set j (some w)) F H F2 H2 := by
    refine { gs.toGrR with own := fun p ⟨k, ω, f, e1, e2⟩ => ?_, mu := fun k hk => by rw [List.getElem?_set_ne fun (e : j = k) => hu2 (by rw [e]; exact hk)]; exact gA.mu k hk }
    rcases get_set1 e1 with ⟨rfl, z, hl⟩ | ⟨n, e1⟩
    · rw [List.getElem?_set_self (by rw [hA.len]; exact hl)] at e2
      exact .inr (g1.dom p (n2 ω f p z.symm (Option.some.inj (Option.some.inj e2))))
    · rw [List.getElem?_set_ne n] at e2
      exact gA.own p ⟨k, ω, f, e1, e2⟩
  refine q _ F2 H2 gB ?_
  cases sb with
  | dead =>
    exact ⟨(List.length_set ..).trans (hA.len.trans (List.length_set ..).symm), fun k sl o e1 e2 => by
      rcases get_set1 e1 with ⟨_, z, _⟩ | ⟨n, e1⟩
      · subst z; trivial
      · rw [List.getElem?_set_ne n] at e2; exact hA.at_ k sl o e1 e2, fun k l ω ω' f f' p n e1 e2 e3 => by
      rcases get_set1 e1 with ⟨_, z, _⟩ | ⟨n1, e1⟩
      · cases z
      · rcases get_set1 e2 with ⟨_, z, _⟩ | ⟨n2, e2⟩
        · cases z
        · rw [List.getElem?_set_ne n1] at e3
          rw [List.getElem?_set_ne n2]
          exact hA.sep k l ω ω' f f' p n e1 e2 e3⟩
  | fz τ f => exact hA.setF f2
  | ow ω f =>
    obtain ⟨p, u, e, z1, z2, z3⟩ := f2
    subst e
    refine hA.setO z1 z2 z3 fun ⟨k, ω', f', e1, e2⟩ => ?_
    have hp := n2 ω f p rfl rfl
    rcases get_set1 e1 with ⟨rfl, z, hl⟩ | ⟨n, e1⟩
    · rw [List.getElem?_set_self (by rw [hh2.len]; exact hl)] at e2
      have ev : v = .ref p := Option.some.inj (Option.some.inj e2)
      subst z
      obtain ⟨p', u', e', _, z2', _⟩ := f1
      rw [ev] at e'; cases e'
      rw [hp] at z2'; cases z2'
    · rw [List.getElem?_set_ne n] at e2
      exact (d2.was hh1 e1 e2).2 hp
end
end Dx

/-! Dx, part J: the law's end. -/
namespace Dx
open PySem PySem.Spec PyProof.Rows L2
/-- the law's own def is called with the script; from a promise of the kind FnG -/
theorem law_end {P : Program} {w : World} {K : PySem.W.Frag} {mg mb : Str → Option Value} {k : Nat} {fa a : Addr} {fd : FuncData} {x : Str} {sp : Sp} {s1 : Shared} {vs : List Value} {ns : List Int}
    (KX : K.In s1.heap) (hns : s1.heap.Ns mainGlobals mg) (hb : s1.heap.Ns builtinsNs mb) (hbb : ∀ x : Str, x ≠ "__name__" → mb x = bootBuiltins x) (hlim : s1.heap.NoLimit) (hg : s1.gens = #[])
    (ha : s1.heap.get? a = some { cls := .type "list", data := .seq vs.toArray }) (hi : IntsAre vs ns) (hl : ns.length ≤ sizeLine) (hr : RoomG k callerA)
    (G : ∀ base : Heap, K.In base → base.Ns mainGlobals mg → FnG P w K mg base CX0 k fa fd [x] sp) (hbind : ∀ (s : Shared) (u : Value), BindsTo s fd ⟨[u], []⟩ [(x, u)])
    (hsp : ∀ H : Hp, Only H → SqL K H a (ns.map V.int) → sp [.ref a] H (fun v _ => v = .bl true) E0) :
    codeAny (model P w) callerA (.call (.ref fa) ⟨[.ref a], []⟩) (fun r s' => r = .ok (.ret (.bool true)) ∧ OldK s1.heap s'.heap ∧ s'.os = s1.os ∧ AllBare s'.gens) s1 := by
  have rv := vals_ints hi
  have main : ∀ H : Hp, Only H → SqL K H a (ns.map V.int) → HOk P w H s1.heap → (∀ b, H b ≠ none → b = a ∧ K.lookup a = none) →
      codeAny (model P w) callerA (.call (.ref fa) ⟨[.ref a], []⟩) (fun r s' => r = .ok (.ret (.bool true)) ∧ OldK s1.heap s'.heap ∧ s'.os = s1.os ∧ AllBare s'.gens) s1 := fun H hO hS hok hA => by
    have dictFree : ∀ {b : Addr} {o : Obj} {es : Array DictEntry} {ep : Nat}, s1.heap.get? b = some o → o.data = .dict es ep → H b = none := fun {b o es ep} e d => by
      cases q : H b with
      | none => rfl
      | some u =>
        obtain ⟨e', _⟩ := hA b (by rw [q]; exact fun z => nomatch z)
        rw [e', ha] at e
        cases e
        cases d
    have ns2 : ∀ {b : Addr} {m : Str → Option Value}, s1.heap.Ns b m → (hidT s1.heap H).Ns b m := fun ⟨o, es, ep, e, d, r⟩ => ⟨o, es, ep, hidT_get e (dictFree e d), d, r⟩
    have kb : K.In (hidT s1.heap H) := fun b o e => hidT_get (KX b o e) (by
      cases q : H b with
      | none => rfl
      | some u =>
        obtain ⟨e', n'⟩ := hA b (by rw [q]; exact fun z => nomatch z)
        rw [e'] at e
        rw [n'] at e
        cases e)
    have md : Mod K mg (hidT s1.heap H) := ⟨kb, ns2 hns, ⟨mb, ns2 hb, hbb⟩, let ⟨mc, h1, h2⟩ := hlim; ⟨mc, ns2 h1, h2⟩⟩
    have e0 : Env0 P w K mg (hidT s1.heap H) callerA [] s1 H := ⟨rfl, md, fun b o e => of_hidT e, Nat.le_of_eq (hidT_size _ _), trivial, fun b hb => absurd (show b ∈ ([] : List Addr) from hb) List.not_mem_nil, hok, .of_eq hg⟩
    refine codeAny_mono ((G _ kb (ns2 hns)).run callerA [] s1 H ⟨[.ref a], []⟩ [.ref a] [.ref a] _ _ hr e0 (hbind s1 (.ref a)) (.cons rfl .nil) (hsp H hO hS)) fun r s' h => ?_
    cases r with
    | error e => exact False.elim h
    | ok fl =>
      cases fl with
      | next => exact False.elim h
      | brk => exact False.elim h
      | cont => exact False.elim h
      | ret u =>
        obtain ⟨v, H', os, bare, un, hok', r', q⟩ := h
        have hu : u = Value.bool true := by
          rw [show v = V.bl true from q] at r'
          exact r'
        refine ⟨by rw [hu], OldK.of_keep fun b o e => ?_, os, bare⟩
        cases hb : H b with
        | none => exact un.keep b o e hb (fun z => absurd (show b ∈ ([] : List Addr) from z) List.not_mem_nil) List.not_mem_nil
        | some u =>
          rcases hO b with z | ⟨ob, xs, z⟩
          · rw [hb] at z; cases z
          · obtain ⟨e1, _⟩ := hok b _ z
            obtain ⟨e2, _⟩ := hok' b _ (un.frzs b ob _ z)
            rw [e] at e1; cases e1
            exact e2
  cases hk : K.lookup a with
  | some o =>
    have e := KX a o hk
    rw [ha] at e
    cases e
    exact main (fun _ => none) (fun _ => .inl rfl) (.inr ⟨_, vs.toArray, _, hk, rfl, rfl, rfl, by rw [List.size_toArray, hi.length]; exact hl, by simpa using rv⟩) (fun b u z => nomatch (show (none : Option HO) = some u from z)) fun b z => absurd rfl z
  | none =>
    have at1 : ∀ b, b = a → (fun b => if b = a then some (HO.frz { cls := .type "list", data := .seq vs.toArray } (.lst (ns.map V.int))) else none : Hp) b = some (.frz { cls := .type "list", data := .seq vs.toArray } (.lst (ns.map V.int))) := fun b hb => if_pos hb
    refine main (fun b => if b = a then some (.frz { cls := .type "list", data := .seq vs.toArray } (.lst (ns.map V.int))) else none) (fun b => ?_) (.inl (.inr ⟨_, at1 a rfl⟩)) (fun b u z => ?_) fun b z => ?_
    · by_cases hb : b = a
      · exact .inr ⟨_, _, at1 b hb⟩
      · exact .inl (if_neg hb)
    · by_cases hb : b = a
      · have z' := (at1 b hb).symm.trans z
        cases z'
        subst hb
        exact ⟨ha, by rw [List.length_map]; exact hl, vs, _, rv, ha⟩
      · have z' := (if_neg hb).symm.trans z
        cases z'
    · by_cases hb : b = a
      · exact ⟨hb, hk⟩
      · exact absurd (if_neg hb) z
/-- the goal that k_head leaves, from the law's promise -/
theorem law_walk {l : PySem.W.OpenLaw} {n k : Nat} {q : Program} {loose : List Str} {XP : (Str → Option Value) → Heap → Prop} {YP : World → Heap → Prop} {d : DefRec} {K : Params → PySem.W.Frag} {sp : World → Sp} {x : Str}
    (hn : l.most = some n) (hn2 : n ≤ sizeLine) (hdf : d.params.defaults = []) (hr : RoomG k callerA) (hY : ∀ (w : World) (h : Heap), YP w h → (K w.params).In h)
    (F : ∀ (w : World) (mg : Str → Option Value) (fa : Addr) (h : Heap), (K w.params).In h → h.Ns mainGlobals mg → mg d.name = some (.ref fa) →
      ∃ fd : FuncData, (∀ (s : Shared) (u : Value), BindsTo s fd ⟨[u], []⟩ [(x, u)]) ∧ ∀ base : Heap, (K w.params).In base → base.Ns mainGlobals mg → FnG l.prog w (K w.params) mg base CX0 k fa fd [x] (sp w))
    (hsp : ∀ (w : World) (H : Hp) (a : Addr) (ns : List Int), ns.length ≤ n → (∀ z ∈ ns, Builtin.Int.intBits z ≤ 1048576) → SqL (K w.params) H a (ns.map V.int) → sp w [.ref a] H (fun v _ => v = .bl true) E0) :
    PySem.W.WalkO q loose XP YP l.row.toRowW d [] (fun f vs => PySem.call f vs) :=
  Att.attach_callB hn hdf fun w s0 s1 mg mb fa o pm cd doc a vs ns G Y ho hd hcd hmg hobj hints hlen hbits hg => by
    have KX := hY w _ Y
    obtain ⟨fd, hb, hF⟩ := F w mg fa _ KX G.T.g hmg
    exact law_end KX G.T.g G.T.b G.T.builtins G.T.nolimit hg hobj hints (Nat.le_trans hlen hn2) hr hF hb fun H hO hS => hsp w H a ns hlen hbits hS
/-- the law's def: the script in, a bool out -/
abbrev fmLaw (K : PySem.W.Frag) : Fm K Bool := ⟨[.fz (tScr K)], .fz (tBool K), fun r => r, fun _ => ()⟩
/-- from data: the law's def gives True at every script -/
theorem law_sp {K : PySem.W.Frag} {p : List Int × Unit → Prop} {f : List Int × Unit → Bool} {H : Hp} {a : Addr} {ns : List Int} (h : SqL K H a (ns.map V.int)) (hl : ns.length ≤ sizeLine) (hp : p (ns, ())) (hf : f (ns, ()) = true) : SpOf (fmLaw K) p f [.ref a] H (fun v _ => v = .bl true) E0 := by
  refine ⟨H, (ns, ()), ⟨rfl, fun i sl o e1 e2 => ?_, fun i j ω ω' g g' q n e1 e2 e3 => ?_⟩, Same.refl H, hp, fun v F1 H1 g ro mo => ?_⟩
  · match i with
    | 0 =>
      have e1' : (Slot.fz (tScr K) fun s : HP [PK.fz (tScr K)] => s.1) = sl := by simpa [ctx0] using e1
      have e2' : some (V.ref a) = o := by simpa using e2
      subst e1' e2'
      exact ⟨_, rfl, a, rfl, h, hl⟩
    | i + 1 => simp [ctx0] at e1
  · match i with
    | 0 => simp [ctx0] at e1
    | i + 1 => simp [ctx0] at e1
  · have r : v = .bl (f (ns, ())) := ro
    rw [r, hf]
theorem def_fin {K : PySem.W.Frag} {X : Cx} {S R : Type} {fm : Fm K R} {Δ : Ctx K S} {sts : List Stmt} {cs : List (S → Prop)} {f fv : S → R} {p : S → Prop} (h : DR K X fm Δ sts cs f) (hf : ∀ s, f s = fv s) (hp : ∀ s, p s → Conj cs s) : ∃ cs, (∀ s, p s → Conj cs s) ∧ DB K X fm Δ sts cs fv := by
  have e : f = fv := funext hf
  exact ⟨cs, hp, .ofR (e ▸ h)⟩
theorem def_finN {K : PySem.W.Frag} {X : Cx} {S R : Type} {fm : Fm K R} {Δ Δ1 : Ctx K S} {sts : List Stmt} {cs : List (S → Prop)} {fv : S → R} {p : S → Prop} {g : S → HM fm.ps} (h : DN K X (musOf 0 fm.ps) Δ sts cs Δ1) (hg : MuF Δ1 0 fm.ps g) (hr : ResF fm (.fz (tNone K)) fv (fun _ => ()) g) (hp : ∀ s, p s → Conj cs s) : ∃ cs, (∀ s, p s → Conj cs s) ∧ DB K X fm Δ sts cs fv :=
  ⟨cs, hp, .ofN h hg hr⟩
end Dx

/-! Dx, part K: guards, powers, chains, isinstance, all and any, effects in branches, pop; and what the printed text leans on. -/
namespace Dx
open PySem PySem.Spec PyProof.Rows L2
section
variable {K : PySem.W.Frag} {X : Cx} {S R R' : Type} {Δ Δ1 Δ2 Δ3 Δa Δb : Ctx K S} {st : Stmt} {sts : List Stmt} {e a b c : Expr} {es : List Expr} {pos p' px apos : Pos} {τ τe τ1 τ2 L : Ty K} {ts : List (Ty K)} {ω : OTy K} {mus ms m1 m2 m3 : List Nat} {c1 c2 c3 cs : List (S → Prop)} {ta tb tc : TE} {tx tz : TT} {tl : TA} {i j : Nat} {x : Str} {fm : Fm K R}
/-! #### conversions: what is printed is what was derived -/
theorem DS.conv {c' : List (S → Prop)} {Δ' : Ctx K S} (h : DS K X mus Δ st cs Δ1) (e1 : cs = c') (e2 : Δ1 = Δ') : DS K X mus Δ st c' Δ' := e1 ▸ e2 ▸ h
theorem DSm.conv {r r' : S → Option R} {c' : List (S → Prop)} {Δ' : Ctx K S} (h : DSm K X fm Δ st cs r Δ1) (e1 : cs = c') (e2 : Δ1 = Δ') (e3 : r = r') : DSm K X fm Δ st c' r' Δ' := e1 ▸ e2 ▸ e3 ▸ h
theorem DN.conv {c' : List (S → Prop)} {Δ' : Ctx K S} (h : DN K X mus Δ sts cs Δ1) (e1 : cs = c') (e2 : Δ1 = Δ') : DN K X mus Δ sts c' Δ' := e1 ▸ e2 ▸ h
theorem DM.conv {r r' : S → Option R} {c' : List (S → Prop)} {Δ' : Ctx K S} (h : DM K X fm Δ sts cs r Δ1) (e1 : cs = c') (e2 : Δ1 = Δ') (e3 : r = r') : DM K X fm Δ sts c' r' Δ' := e1 ▸ e2 ▸ e3 ▸ h
theorem DR.conv {f f' : S → R} {c' : List (S → Prop)} (h : DR K X fm Δ sts cs f) (e1 : cs = c') (e3 : f = f') : DR K X fm Δ sts c' f' := e1 ▸ e3 ▸ h
theorem DX.conv {f f' : S → τ.α} {c' : List (S → Prop)} {Δ' : Ctx K S} (h : DX K X Δ e τ ms cs Δ1 f ta) (e1 : cs = c') (e2 : Δ1 = Δ') (e3 : f = f') : DX K X Δ e τ ms c' Δ' f' ta := e1 ▸ e2 ▸ e3 ▸ h
theorem DO.conv {f f' : S → ω.τ.α} {c' : List (S → Prop)} {Δ' : Ctx K S} (h : DO K X Δ e ω ms cs Δ1 f ta) (e1 : cs = c') (e2 : Δ1 = Δ') (e3 : f = f') : DO K X Δ e ω ms c' Δ' f' ta := e1 ▸ e2 ▸ e3 ▸ h
theorem DT.conv {f f' : S → Bool} {c' : List (S → Prop)} {Δ' : Ctx K S} (h : DT K X Δ e ms cs Δ1 f tx) (e1 : cs = c') (e2 : Δ1 = Δ') (e3 : f = f') : DT K X Δ e ms c' Δ' f' tx := e1 ▸ e2 ▸ e3 ▸ h
theorem Join.refl {h : S → Bool} : ∀ {Δ : Ctx K S}, Join h Δ Δ Δ
  | [] => .nil
  | _ :: _ => .same Join.refl
/-- a block that is not reached -/
theorem DN.dead : DN K X mus Δ sts [fun _ => False] Δ1 := by
  exact ⟨fun _ _ _ => False, ⟨fun _ _ _ _ _ _ h => h.elim⟩, fun s F H σ hh sm hc D q => hc.1.elim⟩
/-- if c: raise .. , where c is false -/
theorem DS.guard {h : S → Bool} {sa : List Stmt} (hc : DT K X Δ c ms c1 Δ1 h tx) (hm : OwnAll Δ ms) : DS K X mus Δ (.If c sa [] pos) (c1 ++ [fun s => h s = true → False]) Δ1 :=
  DS.ite hc hm DN.dead DN.nil Join.refl
/-! #### powers -/
def CPowX (i j : Int) : Prop := 0 ≤ j ∧ (Builtin.Int.intBits i : Int) * j ≤ 2 ^ 27
theorem op_powX : OpR X (binaryOp .Pow) (rI CPowX fun i j => .int (i ^ j.toNat)) := opI fun _ _ _ _ _ _ _ hc q => pow_int hc.1 hc.2 q
theorem DX.pow {fa fb : S → Int} (ha : DX K X Δ a (tInt K) m1 c1 Δ1 fa ta) (hb : DX K X Δ1 b (tInt K) m2 c2 Δ2 fb tb) : DX K X Δ (.BinOp a .Pow b pos) (tInt K) (m1 ++ m2) (c1 ++ (c2 ++ [fun s => CPowX (fa s) (fb s)])) Δ2 (fun s => fa s ^ (fb s).toNat) (tOp (rI CPowX fun i j => .int (i ^ j.toNat)) ta tb) :=
  DX.bin (τ := tInt K) (cc := [CPowX]) (g := fun (x y : Int) => x ^ y.toNat) (r2_I fun _ _ _ => rfl) ha hb fun p q => pe_op op_powX p q
/-! #### chains of ints -/
theorem chain_sem {P P' : Int → Int → Bool} {fa fb fc : S → Int} (ha : DX K X Δ a (tInt K) m1 c1 Δ1 fa ta) (hb : DX K X Δ1 b (tInt K) m2 c2 Δ2 fb tb) (hc : DX K X Δ2 c (tInt K) [] c3 Δ2 fc tc) :
    ∀ s F H σ, Holds Δ s F H σ → Same F H → Conj (c1 ++ (c2 ++ guardT (fun s => P (fa s) (fb s)) c3)) s → ∀ Q : VK, (∀ F' H', Gr (MsAt (m1 ++ m2) σ) F H F' H' → Holds Δ2 s F' H' σ → Q (.bl (P (fa s) (fb s) && P' (fb s) (fc s))) H') → tChain (rI0 fun i j => .bl (P i j)) (rI0 fun i j => .bl (P' i j)) ta tb tc σ H Q := by
  obtain ⟨d1, p1, r1⟩ := ha
  obtain ⟨d2, p2, r2⟩ := hb
  obtain ⟨d3, p3, r3⟩ := hc
  intro s F H σ hh sm hcs Q q
  obtain ⟨k1, k2⟩ := conj_app hcs
  obtain ⟨k2, k3⟩ := conj_app k2
  refine r1 s F H σ hh sm k1 _ fun v F1 H1 g1 hh1 e1 => r2 s F1 H1 σ hh1 g1.fh k2 _ fun w F2 H2 g2 hh2 e2 => ⟨fa s, fb s, e1, e2, P (fa s) (fb s), rfl, ?_⟩
  have g12 := (g1.mono (msAt_l (m2 := m2))).trans (g2.mono (msAt_r (m1 := m1)))
  cases e : P (fa s) (fb s) with
  | false =>
    rw [if_neg (by decide)]
    have := q F2 H2 g12 hh2
    rw [e] at this
    exact this
  | true =>
    rw [if_pos rfl]
    refine r3 s F2 H2 σ hh2 g2.fh (guardT_conj (g := fun s => P (fa s) (fb s)) e k3) _ fun z F3 H3 g3 hh3 e3 => ⟨fb s, fc s, e2, e3, ?_⟩
    rw [msAt_nil] at g3
    have := q F3 H3 (g12.trans g3.of0) hh3
    rw [e] at this
    exact this
theorem DX.chain {o o' : CmpOp} {P P' : Int → Int → Bool} {fa fb fc : S → Int} (ho : OpR X (compareOp o) (rI0 fun i j => .bl (P i j))) (ho' : OpR X (compareOp o') (rI0 fun i j => .bl (P' i j))) (ha : DX K X Δ a (tInt K) m1 c1 Δ1 fa ta) (hb : DX K X Δ1 b (tInt K) m2 c2 Δ2 fb tb) (hc : DX K X Δ2 c (tInt K) [] c3 Δ2 fc tc) (hm : lastMarks [o, o'] [b, c] = false := by with_unfolding_all rfl) :
    DX K X Δ (.Compare a [o, o'] [b, c] pos) (tBool K) (m1 ++ m2) (c1 ++ (c2 ++ guardT (fun s => P (fa s) (fb s)) c3)) Δ2 (fun s => P (fa s) (fb s) && P' (fb s) (fc s)) (tChain (rI0 fun i j => .bl (P i j)) (rI0 fun i j => .bl (P' i j)) ta tb tc) :=
  ⟨ha.1.trans hb.1, pe_chain ho ho' ha.2.1 hb.2.1 hc.2.1 hm, fun s F H σ hh sm hcs Q q => chain_sem ha hb hc s F H σ hh sm hcs Q fun F1 H1 g1 hh1 => q _ F1 H1 g1 hh1 rfl⟩
theorem DT.chain {o o' : CmpOp} {P P' : Int → Int → Bool} {fa fb fc : S → Int} (ho : OpR X (compareOp o) (rI0 fun i j => .bl (P i j))) (ho' : OpR X (compareOp o') (rI0 fun i j => .bl (P' i j))) (ha : DX K X Δ a (tInt K) m1 c1 Δ1 fa ta) (hb : DX K X Δ1 b (tInt K) m2 c2 Δ2 fb tb) (hc : DX K X Δ2 c (tInt K) [] c3 Δ2 fc tc) (hm : lastMarks [o, o'] [b, c] = false := by with_unfolding_all rfl) :
    DT K X Δ (.Compare a [o, o'] [b, c] pos) (m1 ++ m2) (c1 ++ (c2 ++ guardT (fun s => P (fa s) (fb s)) c3)) Δ2 (fun s => P (fa s) (fb s) && P' (fb s) (fc s)) (tTest (tChain (rI0 fun i j => .bl (P i j)) (rI0 fun i j => .bl (P' i j)) ta tb tc)) :=
  ⟨ha.1.trans hb.1, pt_chain ho ho' ha.2.1 hb.2.1 hc.2.1 hm, fun s F H σ hh sm hcs Q q => chain_sem ha hb hc s F H σ hh sm hcs _ fun F1 H1 g1 hh1 => ⟨_, rfl, q F1 H1 g1 hh1⟩⟩
def pLe (i j : Int) : Bool := decide (i ≤ j)
theorem ch_le : OpR X (compareOp .LtE) (rI0 fun i j => .bl (pLe i j)) := op_le
/-! #### isinstance of data whose type is known -/
def KindOf (τ : Ty K) (T : String) : Prop := ∀ F H v x, Same F H → τ.rep F v x → TyX K H v (.type T)
theorem kind_int : KindOf (tInt K) "int" := fun F H v x sm r => by rw [show v = .int x from r]; exact .base (.int x)
theorem kind_list {τ : Ty K} : KindOf (tList τ) "list" := fun F H v x sm ⟨a, vs, e, q, _⟩ => by rw [e]; exact .base (.lst (sm _ _ q))
theorem kind_tup {ts : List (Ty K)} : KindOf (tTp ts) "tuple" := fun F H v x sm ⟨a, vs, e, q, _⟩ => by rw [e]; exact .base (.tup (sm _ _ q))
theorem DX.isi {T T2 : String} {r : Bool} {y : Str} {f : S → τ.α} {py : Pos} (he : DX K X Δ e τ ms c1 Δ1 f ta) (hk : KindOf τ T) (hb : kitB T T2 = some r) (hm : X.mg "isinstance" = none) (hm2 : X.mg y = none) (hv2 : bootBuiltins y = some (.type T2)) (hn2 : y ≠ "__name__" := by decide) (hd2 : (y == ("__debug__" : Str)) = false := by decide) (hK : X.K = K := by rfl) (hg : Gl X "isinstance" := by rfl) (hg2 : Gl X y := by rfl)
    (hs : starEach [e, .Name y py] X.env = (false, eval e X.env) :: starEach [.Name y py] X.env := by rfl) (hs2 : starEach [.Name y py] X.env = (false, eval (.Name y py) X.env) :: starEach [] X.env := by rfl) (hpl : (backTo pos (starEach [.Name y py] X.env)).any (·.1) = false := by rfl) :
    DX K X Δ (.Call (.Name "isinstance" px) [e, .Name y py] [] pos) (tBool K) ms c1 Δ1 (fun _ => r) (tCB (rIsi K) (tCons ta (tCons (tC (.ty T2)) tNil))) := by
  subst hK
  obtain ⟨d, p, q1⟩ := he
  refine ⟨d, pe_callB call_isi hg hm (by decide +kernel) (pa_cons p (pa_cons (pe_bltn hg2 hm2 hv2 rfl hn2 hd2) pa_nil hs2) hs) (by decide) (by decide) hs hpl, fun s F H σ hh sm hc Q q => ?_⟩
  exact q1 s F H σ hh sm hc _ fun v F1 H1 g1 hh1 r1 => ⟨v, .ty T2, .type T, .type T2, r, rfl, .ty T2, hk F1 H1 v _ g1.fh r1, kit_ty hb, q _ F1 H1 g1 hh1 rfl⟩
/-! #### all, any -/
theorem paired_bls : ∀ {vs : List V} {bs : List Bool}, Paired (fun v x => v = V.bl x) vs bs → vs = bs.map V.bl
  | _, _, .nil => rfl
  | _, _, .cons r t => by rw [r, paired_bls t]; rfl
theorem DX.all {f : S → List Bool} (hm : X.mg "all" = none) (he : DX K X Δ e (tList (tBool K)) ms c1 Δ1 f ta) (hK : X.K = K := by rfl) (hcm : X.calm = true := by rfl) (hg : Gl X "all" := by rfl) (hs : starEach [e] X.env = (false, eval e X.env) :: starEach [] X.env := by rfl) (hpl : (backTo pos (starEach [] X.env)).any (·.1) = false := by rfl) :
    DX K X Δ (.Call (.Name "all" px) [e] [] pos) (tBool K) ms (c1 ++ []) Δ1 (fun s => (f s).all id) (tCB (rAll K) (tCons ta tNil)) := by
  subst hK
  exact DX.call1 (τ1 := tBool X.K) (cc := []) (g := fun (x : List Bool) => x.all id) (cr_all hcm) (fun v x F H sm r _ Q q => by
    obtain ⟨a, vs, ev, sq, pr, _⟩ := r
    exact ⟨a, x, by rw [ev], by rw [← paired_bls pr]; exact .inl (.inl (sm _ _ sq)), q _ F H (Gr.refl sm) rfl⟩) hm (by decide +kernel) he hg (by decide) (by decide) hs hpl
theorem DX.any {f : S → List Bool} (hm : X.mg "any" = none) (he : DX K X Δ e (tList (tBool K)) ms c1 Δ1 f ta) (hK : X.K = K := by rfl) (hcm : X.calm = true := by rfl) (hg : Gl X "any" := by rfl) (hs : starEach [e] X.env = (false, eval e X.env) :: starEach [] X.env := by rfl) (hpl : (backTo pos (starEach [] X.env)).any (·.1) = false := by rfl) :
    DX K X Δ (.Call (.Name "any" px) [e] [] pos) (tBool K) ms (c1 ++ []) Δ1 (fun s => (f s).any id) (tCB (rAny K) (tCons ta tNil)) := by
  subst hK
  exact DX.call1 (τ1 := tBool X.K) (cc := []) (g := fun (x : List Bool) => x.any id) (cr_any hcm) (fun v x F H sm r _ Q q => by
    obtain ⟨a, vs, ev, sq, pr, _⟩ := r
    exact ⟨a, x, by rw [ev], by rw [← paired_bls pr]; exact .inl (.inl (sm _ _ sq)), q _ F H (Gr.refl sm) rfl⟩) hm (by decide +kernel) he hg (by decide) (by decide) hs hpl
/-! #### effects in one branch -/
/-! #### is of bools -/
/-- len of a tuple -/
theorem DX.lenT {f : S → HL ts} (hm : X.mg "len" = none) (he : DX K X Δ e (tTp ts) ms c1 Δ1 f ta) (hK : X.K = K := by rfl) (hg : Gl X "len" := by rfl) (hs : starEach [e] X.env = (false, eval e X.env) :: starEach [] X.env := by rfl) (hpl : (backTo pos (starEach [] X.env)).any (·.1) = false := by rfl) :
    DX K X Δ (.Call (.Name "len" px) [e] [] pos) (tInt K) ms (c1 ++ []) Δ1 (fun _ => (ts.length : Int)) (tCB (fun xs H Q => ∃ p ys, xs = [.ref p] ∧ (SqL K H p ys ∨ SqT K H p ys) ∧ Q (.int ys.length) H) (tCons ta tNil)) := by
  subst hK
  exact DX.call1 (τ1 := tInt X.K) (cc := []) (g := fun _ => (ts.length : Int)) call_len_seq (fun v x F H sm r _ Q q => by
    obtain ⟨a, vs, ev, sq, pr⟩ := r
    exact ⟨a, vs, by rw [ev], .inr (.inl (.inl (sm _ _ sq))), q _ F H (Gr.refl sm) (by rw [pr.length])⟩) hm PySem.boot_len he hg (by decide) (by decide) hs hpl
end
end Dx

/-! Dx, part L: small words of the printed text. -/
namespace Dx
open PySem PySem.Spec PyProof.Rows L2
section
variable {K : PySem.W.Frag} {X : Cx} {S : Type} {Δ Δ1 : Ctx K S} {mus ms : List Nat} {e : Expr} {τ : Ty K} {ω : OTy K} {cs : List (S → Prop)} {ta : TE} {tx : TT}
theorem DN.fin (e : Δ = Δ1) : DN K X mus Δ [] [] Δ1 := e ▸ DN.nil
theorem DX.pu {f : S → τ.α} (h : DX K X Δ e τ ms cs Δ1 f ta) (e1 : ms = []) (e2 : Δ1 = Δ) : DX K X Δ e τ [] cs Δ f ta := by
  subst e1 e2
  exact h
theorem DT.pu {f : S → Bool} (h : DT K X Δ e ms cs Δ1 f tx) (e1 : ms = []) (e2 : Δ1 = Δ) : DT K X Δ e [] cs Δ f tx := by
  subst e1 e2
  exact h
theorem DW.pu {f : S → Bool} (h : DW K X Δ e ms cs Δ1 f tx) (e1 : ms = []) (e2 : Δ1 = Δ) : DW K X Δ e [] cs Δ f tx := by
  subst e1 e2
  exact h
theorem DO.pu {f : S → ω.τ.α} (h : DO K X Δ e ω ms cs Δ1 f ta) (e1 : ms = []) (e2 : Δ1 = Δ) : DO K X Δ e ω [] cs Δ f ta := by
  subst e1 e2
  exact h
theorem DX.ofL {f : S → List τ.α} (h : DO K X Δ e (oList τ) ms cs Δ1 f ta) : DX K X Δ e (tList τ) ms cs Δ1 f ta := DX.ofO h
theorem DI.conv {tg iter : Expr} {wi : TI} {f f' : S → List τ.α} {c' : List (S → Prop)} {Δ' : Ctx K S} (h : DI K X Δ tg iter τ ms cs Δ1 f wi) (e1 : cs = c') (e2 : Δ1 = Δ') (e3 : f = f') : DI K X Δ tg iter τ ms c' Δ' f' wi := e1 ▸ e2 ▸ e3 ▸ h
theorem n64 {n m : Nat} (h : n = m) (hm : m ≤ 64 := by decide) : n ≤ 64 := h ▸ hm
theorem nd1 {j : Nat} : List.Nodup [j] := List.nodup_cons.mpr ⟨List.not_mem_nil, List.nodup_nil⟩
end
/-- what need not be looked into -/
@[irreducible] def hide {α : Type} (x : α) : α := x
theorem hide_eq {α : Type} (x : α) : hide x = x := by unfold hide; rfl
@[irreducible] def LoopF {M α : Type} (step : M → α → M) (xs : List α) (m : M) : M := loopF step xs m
@[irreducible] def LoopR {M α R : Type} (r : M → α → Option R) (step : M → α → M) (xs : List α) (m : M) : Option R := loopR r step xs m
theorem LoopF_eq {M α : Type} (step : M → α → M) (xs : List α) (m : M) : LoopF step xs m = loopF step xs m := by unfold LoopF; rfl
theorem LoopR_eq {M α R : Type} (r : M → α → Option R) (step : M → α → M) (xs : List α) (m : M) : LoopR r step xs m = loopR r step xs m := by unfold LoopR; rfl
section
variable {K : PySem.W.Frag} {X : Cx} {S M R : Type} {fm : Fm K R} {Δ Δ1 : Ctx K S} {Δl : Ctx K (S × M)} {body : List Stmt} {tg iter : Expr} {pos : Pos} {τ : Ty K} {Δb Δe : Ctx K ((S × M) × τ.α)} {mus ms is : List Nat} {c1 : List (S → Prop)} {cb : List ((S × M) × τ.α → Prop)} {wi : TI} {g : TG} {fx : S → List τ.α} {init : S → M} {step : (S × M) × τ.α → M}
theorem DS.forH (hi : DI K X Δ tg iter τ ms c1 Δ1 fx wi) (hm : OwnAll Δ ms) (h0 : Head init Δ1 Δl) (hg : DG K X (Δl.comap Prod.fst) tg τ Prod.snd is Δb g) (his : ∀ j ∈ is, j ∉ mus) (hb : DN K X mus Δb body cb Δe) (hk : Back step Δe Δl)
    (hp : PassesOwn (model X.prog X.w) X.A X.env X.xe := by exact PassesOwn.never) (hc : X.calm = true := by rfl) (hs : ∀ x, foldedSetIterable iter X.env x = pure x := by intro _; rfl) :
    DS K X mus Δ (.For tg iter body [] pos) (c1 ++ [fun s => loopC (fun m x => Conj cb ((s, m), x)) (fun m x => step ((s, m), x)) (fx s) (init s)]) (Δl.comap fun s => (s, LoopF (fun m x => step ((s, m), x)) (fx s) (init s))) := by
  rw [show (fun s => (s, LoopF (fun m x => step ((s, m), x)) (fx s) (init s))) = fun s => (s, loopF (fun m x => step ((s, m), x)) (fx s) (init s)) from funext fun s => by rw [LoopF_eq]]
  exact DS.for_ hi hm h0 hg his hb hk hp hc hs
theorem DSm.forH {r : (S × M) × τ.α → Option R} (hi : DI K X Δ tg iter τ ms c1 Δ1 fx wi) (hm : OwnAll Δ ms) (h0 : Head init Δ1 Δl) (hg : DG K X (Δl.comap Prod.fst) tg τ Prod.snd is Δb g) (his : ∀ j ∈ is, j ∉ musOf 0 fm.ps) (hb : DM K X fm Δb body cb r Δe) (hk : Back step Δe Δl)
    (hp : PassesOwn (model X.prog X.w) X.A X.env X.xe := by exact PassesOwn.never) (hc : X.calm = true := by rfl) (hs : ∀ x, foldedSetIterable iter X.env x = pure x := by intro _; rfl) :
    DSm K X fm Δ (.For tg iter body [] pos) (c1 ++ [fun s => loopCr (fun m x => Conj cb ((s, m), x)) (fun m x => r ((s, m), x)) (fun m x => step ((s, m), x)) (fx s) (init s)]) (fun s => LoopR (fun m x => r ((s, m), x)) (fun m x => step ((s, m), x)) (fx s) (init s)) (Δl.comap fun s => (s, LoopF (fun m x => step ((s, m), x)) (fx s) (init s))) := by
  rw [show (fun s => (s, LoopF (fun m x => step ((s, m), x)) (fx s) (init s))) = fun s => (s, loopF (fun m x => step ((s, m), x)) (fx s) (init s)) from funext fun s => by rw [LoopF_eq], show (fun s => LoopR (fun m x => r ((s, m), x)) (fun m x => step ((s, m), x)) (fx s) (init s)) = fun s => loopR (fun m x => r ((s, m), x)) (fun m x => step ((s, m), x)) (fx s) (init s) from funext fun s => by rw [LoopR_eq]]
  exact DSm.for_ hi hm h0 hg his hb hk hp hc hs
end
end Dx

/-! Dx, part M: a new object handed to a def that changes it; pop; the script compared. -/
namespace Dx
open PySem PySem.Spec PyProof.Rows L2
section
variable {K : PySem.W.Frag} {X : Cx} {S R R' : Type} {Δ Δ1 Δ2 Δ3 : Ctx K S} {e a b : Expr} {es : List Expr} {pos p' px apos : Pos} {τ : Ty K} {ω : OTy K} {ms m1 m2 l2 : List Nat} {c1 c2 cs : List (S → Prop)} {ta tb : TE} {tl : TA} {i j : Nat} {x : Str} {fm : Fm K R'} {s : S} {F H F1 H1 : Hp} {σ : L2.St} {as : List (AK K S)} {h : S → ω.τ.α} {sl : Slot K S}
/-- arguments among which is one new object: it stands behind the frame -/
def DAn (K : PySem.W.Frag) (X : Cx) (Δ : Ctx K S) (es : List Expr) (ω : OTy K) (ms : List Nat) (cs : List (S → Prop)) (Δ1 : Ctx K S) (h : S → ω.τ.α) (as : List (AK K S)) (t : TA) : Prop :=
  Diff ms Δ Δ1 ∧ PA X es t ∧ ∀ s F H σ, Holds Δ s F H σ → Same F H → Conj cs s → ∀ Q : List V → Hp → Prop, (∀ vs p u F' H', Gr (MsAt ms σ) F H F' H' → Holds Δ1 s F' H' σ → H p = none → F' p = none → H' p = some u → ω.own F' u (h s) → AkAll F' (σ ++ [some (.ref p)]) s as vs → Q vs H') → t σ H Q
theorem ak_ext {o : Option V} : ∀ {a : AK K S} {v : V}, AkRep F σ s a v → AkRep F (σ ++ [o]) s a v
  | .fz τ f, _, r => r
  | .mu j, v, r => by
    have r' : σ[j]? = some (some v) := r
    show (σ ++ [o])[j]? = some (some v)
    rw [List.getElem?_append_left (List.getElem?_eq_some_iff.mp r').1]
    exact r'
theorem akAll_ext {o : Option V} : ∀ {as : List (AK K S)} {vs : List V}, AkAll F σ s as vs → AkAll F (σ ++ [o]) s as vs
  | [], _, r => r
  | _ :: _, _, ⟨v, r, e, r1, r2⟩ => ⟨v, r, e, ak_ext r1, akAll_ext r2⟩
theorem DAn.here (he : DO K X Δ e ω m1 c1 Δ1 h ta) (hb : DA K X Δ1 es m2 c2 Δ2 as tl) (hm2 : OwnAll Δ1 m2) (n : Nat) (hn : Δ.length = n) (hs : starEach (e :: es) X.env = (false, eval e X.env) :: starEach es X.env := by rfl) : DAn K X Δ (e :: es) ω (m1 ++ m2) (c1 ++ c2) Δ2 h (.mu n :: as) (tCons ta tl) := by
  subst hn
  obtain ⟨d1, pa, ra⟩ := he
  obtain ⟨d2, pb, rb⟩ := hb
  refine ⟨d1.trans d2, pa_cons pa pb hs, fun s F H σ hh sm hc Q q => ?_⟩
  obtain ⟨k1, k2⟩ := conj_app hc
  refine ra s F H σ hh sm k1 _ fun p u F1 H1 g1 hh1 n1 n2 e1 o1 => ?_
  refine rb s F1 H1 σ hh1 g1.fh k2 _ fun vs F2 H2 g2 hh2 r2 => ?_
  have nm : ¬ MsAt m2 σ p := fun ⟨k, hk, ek⟩ => by
    obtain ⟨ω', f', h'⟩ := hm2.all k hk
    exact (d1.was hh h' ek).2 n1
  refine q _ p u F2 H2 ((g1.mono (msAt_l (m2 := m2))).trans (g2.mono (msAt_r (m1 := m1)))) hh2 n1 ?_ (g2.keep _ _ e1 nm) (ω.mono g2.ff o1) ⟨.ref p, vs, rfl, ?_, akAll_ext r2⟩
  · cases y : F2 p with
    | none => rfl
    | some o' =>
      rcases g2.fresh p o' y with z | z
      · rw [n2] at z; cases z
      · rw [e1] at z; cases z
  · show (σ ++ [some (.ref p)])[Δ.length]? = some (some (.ref p))
    rw [← hh.len, List.getElem?_append_right (Nat.le_refl _), Nat.sub_self]
    rfl
theorem DAn.cons {f : S → τ.α} (ha : DX K X Δ e τ m1 c1 Δ1 f ta) (hb : DAn K X Δ1 es ω m2 c2 Δ2 h as tl) (hs : starEach (e :: es) X.env = (false, eval e X.env) :: starEach es X.env := by rfl) : DAn K X Δ (e :: es) ω (m1 ++ m2) (c1 ++ c2) Δ2 h (.fz τ f :: as) (tCons ta tl) := by
  obtain ⟨d1, pa, ra⟩ := ha
  obtain ⟨d2, pb, rb⟩ := hb
  refine ⟨d1.trans d2, pa_cons pa pb hs, fun s F H σ hh sm hc Q q => ?_⟩
  obtain ⟨k1, k2⟩ := conj_app hc
  refine ra s F H σ hh sm k1 _ fun v F1 H1 g1 hh1 r1 => ?_
  refine rb s F1 H1 σ hh1 g1.fh k2 _ fun vs p u F2 H2 g2 hh2 n1 n2 e1 o1 r2 => ?_
  exact q _ p u F2 H2 ((g1.mono (msAt_l (m2 := m2))).trans (g2.mono (msAt_r (m1 := m1)))) hh2 (g1.dom p n1) n2 e1 o1 ⟨v, vs, rfl, τ.mono g2.ff r1, r2⟩
/-- a list of ints, compared with the script -/
theorem scr_of_list {F : Hp} {v : V} {xs : List Int} (r : (tList (tInt K)).rep F v xs) : (tScr K).rep F v xs := by
  obtain ⟨a, vs, e, q, pr, z⟩ := r
  have ev : ∀ {vs : List V} {xs : List Int}, Paired (fun v x => v = V.int x) vs xs → vs = xs.map V.int := by
    intro vs xs h
    induction h with
    | nil => rfl
    | cons r _ ih => rw [r, ih]; rfl
  exact ⟨a, e, by rw [← ev pr]; exact .inl (.inl q), z⟩
theorem DX.scrL {f : S → List Int} (h : DX K X Δ e (tList (tInt K)) ms cs Δ1 f ta) : DX K X Δ e (tScr K) ms cs Δ1 f ta :=
  ⟨h.1, h.2.1, fun s F H σ hh sm hc Q q => h.2.2 s F H σ hh sm hc Q fun v F1 H1 g hh1 r => q v F1 H1 g hh1 (scr_of_list r)⟩
/-- x.pop(e) -/
def eraseI {α : Type} (xs : List α) (i : Int) : List α := xs.eraseIdx (if 0 ≤ i then i.toNat else (i + xs.length).toNat)
end
end Dx

/-! Dx, part N: x[lo:hi] = e; effects behind and, or. -/
namespace Dx
open PySem PySem.Spec PyProof PyProof.Rows L2
section
variable {prog : Program} {w : World} {A : Around} {E : Value → Shared → Prop} {s : Shared}
/-- any bounds, step one, the items of another list -/
theorem put_cut {l b sl : Addr} {xs ys : Array Value} {n m : Nat} {vl vu : Value} {lo hi : Option Int} {a c : Nat} {Q : Unit → Shared → Prop} (e : s.heap.get? l = some { cls := .type "list", data := .seq xs n }) (e2 : s.heap.get? b = some { cls := .type "list", data := .seq ys m })
    (hne : l ≠ b) (hs : s.heap.IsSliceOf sl vl vu .none) (pl : IsPart vl lo) (pu : IsPart vu hi) (hb : sliceBounds lo hi none xs.size = ((a : Int), (c : Int), 1)) (hz : xs.size + ys.size ≤ sizeLine)
    (h : Q () { s with heap := s.heap.update l (Obj.mapSeq fun zs => zs.extract 0 a ++ ys ++ zs.extract (max a c) zs.size) }) : wpAny (model prog w) A (setItem (.ref l) (.ref sl) (.ref b)) Q E s := by
  have L1 : s.heap.IsList l xs := PySem.IsL.isList e; have L2 : s.heap.IsList b ys := PySem.IsL.isList e2
  obtain ⟨ob, o1, o2, o3⟩ := id hs
  have T1 : s.TypeIs (.ref sl) "slice" := ⟨ob, o1, o2⟩; have d1 : ¬ ((rawPart none == rawInt 0) = true) := Bool.false_ne_true
  have d2 : Builtin.List.listSameRef (.ref l) (.ref b) = false := by unfold Builtin.List.listSameRef; exact beq_eq_false_iff_ne.mpr hne
  have d3 : (max (a : Int) (c : Int)).toNat = max a c := by omega
  have d4 : ((fun zs : Array Value => zs.extract 0 a ++ ys ++ zs.extract (max a c) zs.size) xs).size ≤ sizeLine + 1 := by simp only [Array.size_append, Array.size_extract]; omega
  unfold setItem; try with_reducible refine wpAny_holding ?_
  first | (refine wpAny_bind (wpAny_pure ?_)) | skip
  refine wpAny_bind (wpAny_sequenceKey L1.typeIs (by decide) (wpAny_bind (wpAny_callSpecial?_slot (name := Str.ofString "__setitem__") L1.typeIs slot_list_setitem (wpAny_call_entry slot_list_setitem L1.typeIs entry_list_setitem ?_ (args_list_setitem _ _ _)))))
  show wpAny _ _ (Builtin.List.listSubscript? (.ref sl) >>= _) _ _ s
  refine wpAny_bind ?_; unfold Builtin.List.listSubscript?
  refine wpAny_bind (wpAny_specialOf T1 slice_no_index ?_); simp only [Option.isNone_none, if_true]
  refine wpAny_pure ?_; show wpAny _ _ (typeOf (.ref sl) >>= _) _ _ s
  refine wpAny_bind (wpAny_typeOf T1 ?_)
  first | (rw [if_neg (by decide)]) | (refine PySem.W.KFB.if_not (by decide) ?_)
  rw [listSliceParts_eq]; refine wpAny_bind (wpAny_bind (wpAny_field o1 o3 (x := .none) rfl (wpAny_bind (wpAny_listPart .none ?_))))
  rw [if_neg d1]; refine wpAny_bind (wpAny_field o1 o3 (x := vl) rfl (wpAny_bind (wpAny_listPart pl (wpAny_bind (wpAny_field o1 o3 (x := vu) rfl (wpAny_bind (wpAny_listPart pu (wpAny_pure ?_))))))))
  first | (simp only [d2, Bool.false_eq_true, if_false]) | (refine PySem.W.KFB.if_not d2 ?_) | (dsimp only; rw [if_neg (by rw [d2]; exact Bool.false_ne_true)])
  refine wpAny_bind (m := Builtin.List.listAllItems (.ref b) "must assign iterable to extended slice") ?_; unfold Builtin.List.listAllItems
  refine wpAny_bind (wpAny_typeOf L2.typeIs ?_)
  first | (refine PySem.W.KFB.if_so (by decide) ?_) | (rw [if_pos (by decide)]) | (simp only [beq_self_eq_true, Bool.true_or, if_true])
  unfold Builtin.List.listItems; refine wpAny_bind (wpAny_seqItems e2 rfl (wpAny_pure (wpAny_bind (wpAny_bind (wpAny_seqItems e rfl (wpAny_pure ?_))))))
  refine wpAny_bind (wpAny_of_eq ((sliceIndices_raw lo hi none xs.size (by simp)).trans (congrArg (pure : Int × Int × Int → Sem (Int × Int × Int)) hb)) ?_)
  show wpAny _ _ (if ((1 : Int) == 1) = true then _ else _) _ _ s
  rw [if_pos (by decide)]; refine wpAny_bind (wpAny_rule ?_)
  first | (simp only [notLongL hz, Bool.false_eq_true, if_false]) | (refine PySem.W.KFB.if_not (notLongL hz) ?_)
  first | (refine wpAny_bind (wpAny_pure ?_)) | skip
  show wpAny _ _ (updateSeq l (fun zs => zs.extract 0 ((a : Int)).toNat ++ ys ++ zs.extract (max (a : Int) (c : Int)).toNat zs.size) >>= _) _ _ s
  rw [d3, Int.toNat_natCast]; refine wpAny_bind (wpAny_updateSeq (hz := Nat.le_trans (Nat.le_add_right _ _) hz) (_hz' := d4) e rfl (wpAny_bind (wpAny_letGo ?_)))
  first | (exact wpAny_bind (wpAny_pure (wpAny_pure ⟨.none, rfl, wpAny_pure h⟩))) | (exact wpAny_pure ⟨.none, rfl, wpAny_pure h⟩)
end
/-- the list behind x[lo:hi] = ys -/
def putL {α : Type} (xs : List α) (lo hi : Option Int) (ys : List α) : List α := xs.take (HT.sIx xs.length 0 lo) ++ ys ++ xs.drop (max (HT.sIx xs.length 0 lo) (HT.sIx xs.length xs.length hi))
section
variable {X : Cx}
theorem put_list {pins : List (Addr × Obj)} {s : Shared} {σ : L2.St} {H : Hp} {l b sl : Addr} {xs ys : List V} {vl vu : Value} {lo hi : Option Int} {Q : Unit → Shared → Prop} (I : Inv X pins σ H s) (hH : H l = some (.lst xs)) (hB : H b = some (.lst ys)) (hne : l ≠ b)
    (hs : s.heap.IsSliceOf sl vl vu .none) (pl : IsPart vl lo) (pu : IsPart vu hi) (hz : xs.length + ys.length ≤ sizeLine) (h : ∀ s', Inv X pins σ (upd H l (.lst (putL xs lo hi ys))) s' → Q () s') : wpAny (model X.prog X.w) X.A (setItem (.ref l) (.ref sl) (.ref b)) Q X.xe s := by
  obtain ⟨z, its, n, r, hl, e⟩ := I.lstM hH; obtain ⟨z2, its2, n2, r2, hl2, e2⟩ := I.lstM hB
  obtain ⟨h1, h2, h3⟩ := slice_bounds lo hi its.toArray.size
  refine put_cut (lo := lo) (hi := hi) (a := HT.sIx its.toArray.size 0 lo) (c := HT.sIx its.toArray.size its.toArray.size hi) e e2 hne hs pl pu (by rw [← h1, ← h2, ← h3]) (by rw [List.size_toArray, List.size_toArray]; omega) (h _ ?_)
  have hn : its.toArray.size = xs.length := by rw [List.size_toArray]; exact hl.symm
  have gl : ∀ {a c : Nat}, (xs.take a ++ ys ++ xs.drop (max a c)).length ≤ sizeLine := fun {a c} => by rw [List.length_append, List.length_append, List.length_take, List.length_drop]; omega
  refine I.lset (its' := its.take (HT.sIx its.toArray.size 0 lo) ++ its2 ++ its.drop (max (HT.sIx its.toArray.size 0 lo) (HT.sIx its.toArray.size its.toArray.size hi))) (t' := s.toks) hH e ?_ ?_ ?_
  · exact splice_eq its its2 _ _
  · unfold putL
    rw [hn]
    exact Vals.append (Vals.append (r.take _) r2) (r.drop _)
  · exact gl
end
section
variable {X : Cx} {o : Expr} {lo hi : Option Expr} {to : TE} {tl th : TO} {p2 pos : Pos}
/-- x[lo:hi] as a target -/
def gCut (to : TE) (tl th : TO) : TG := fun v σ H Q => to σ H fun x H1 => tl σ H1 fun l H2 => th σ H2 fun u H3 => ∃ (a b : Addr) (xs ys : List V), x = .ref a ∧ v = .ref b ∧ a ≠ b ∧ H3 a = some (.lst xs) ∧ H3 b = some (.lst ys) ∧ xs.length + ys.length ≤ sizeLine ∧ Q σ (upd H3 a (.lst (putL xs l u ys)))
theorem pg_cut (ho : PE X o to) (hl : PO X lo tl) (hu : PO X hi th) (ha : ∀ v, assign (.Subscript o (.Slice lo hi none p2) pos) X.env v = (do
      let x ← holding [v] (eval o X.env)
      let y ← holding [v, x] (eval (.Slice lo hi none p2) X.env)
      standAt pos; holding [v, x, y] (setItem x y v); release [y, v, x] [])) : PG X (.Subscript o (.Slice lo hi none p2) pos) (gCut to tl th) := by
  refine ⟨fun pins s σ H v u Q I r h => ?_⟩
  rw [ha]; refine wpAny_bind (wpAny_holding (thn (ho.run pins s σ H _ I h) fun ov s1 ⟨x, H1, I1, r1, q1⟩ => wpAny_bind (wpAny_holding (wpAny_Slice ?_))))
  refine thn (hl.run pins s1 σ H1 _ I1 q1) fun vl s2 ⟨l, H2, I2, pl, q2⟩ => thn (hu.run pins s2 σ H2 _ I2 q2) fun vu s3 ⟨u', H3, I3, pu, q3⟩ => ?_
  obtain ⟨a, b, xs, ys, rfl, rfl, ne, e1, e2, hz, q⟩ := q3
  cases r1; cases r
  rw [evalPart_none]; refine wpAny_pure ?_
  have I4 : Inv X pins σ H3 { s3 with heap := s3.heap.push { cls := .type "slice", data := .fields #[vl, vu, .none] } } := I3.kept (t' := s3.toks) fun b ob q => Heap.get?_push_of_some _ q
  refine wpAny_bind (wpAny_standAt (wpAny_bind (wpAny_holding (put_list I4 e1 e2 ne (Heap.IsSliceOf.new ..) pl pu hz fun s4 I5 => ?_))))
  exact wpAny_release ⟨σ, _, I5, q⟩
end
section
variable {K : PySem.W.Frag} {X : Cx} {S : Type} {Δ Δ1 Δ2 Δ3 : Ctx K S} {e a b c : Expr} {lo hi : Option Expr} {pos p' px p2 : Pos} {τ : Ty K} {ω : OTy K} {mus ms m1 m2 m3 : List Nat} {c1 c2 c3 cs : List (S → Prop)} {ta tb : TE} {tx ty : TT} {tlo thi : TO} {i : Nat} {x : Str} {rest : List Expr}
/-- x[lo:hi] = e, e a new list -/
theorem DS.cut {f fe : S → List τ.α} {flo fhi : S → Option Int} (he : DO K X Δ e (oList τ) ms c1 Δ1 fe ta) (h1 : DPo K X Δ1 lo [] c2 Δ1 flo tlo) (h2 : DPo K X Δ1 hi [] c3 Δ1 fhi thi) (hm : OwnAll Δ ms) (h : Δ1[i]? = some (.ow (oList τ) f)) (hN : X.N[i]? = some x := by rfl) (hv : Vis X.env.scope x := by first | exact Or.inl rfl | exact Or.inr (Or.inl rfl) | exact Or.inr (Or.inr rfl)) (hd : (x == ("__debug__" : Str)) = false := by decide)
    (hcd : (x == ("__classdict__" : Str)) = false := by decide) (ha : ∀ v, assign (.Subscript (.Name x px) (.Slice lo hi none p') p2) X.env v = (do
      let x1 ← holding [v] (eval (.Name x px) X.env)
      let y1 ← holding [v, x1] (eval (.Slice lo hi none p') X.env)
      standAt p2; holding [v, x1, y1] (setItem x1 y1 v); release [y1, v, x1] []) := by intro _; rfl) (hs : swapsWithSole [.Subscript (.Name x px) (.Slice lo hi none p') p2] e pos.line X.env = pure false := by rfl) (hw : swappedStores [.Subscript (.Name x px) (.Slice lo hi none p') p2] e X.env = pure none := by rfl)
    (hp1 : (assignEach [.Subscript (.Name x px) (.Slice lo hi none p') p2] X.env).map (·.2) = [assign (.Subscript (.Name x px) (.Slice lo hi none p') p2) X.env] := by rfl) :
    DS K X mus Δ (.Assign [.Subscript (.Name x px) (.Slice lo hi none p') p2] e pos) (c1 ++ (c2 ++ (c3 ++ [fun s => (f s).length + (fe s).length ≤ sizeLine]))) (Δ1.set i (.ow (oList τ) fun s => putL (f s) (flo s) (fhi s) (fe s))) := by
  obtain ⟨d1, p, r⟩ := he
  obtain ⟨_, pl, rl⟩ := h1
  obtain ⟨_, ph, rh⟩ := h2
  refine ⟨_, ps_asg p (pg_cut (pe_var hN hv hd hcd) pl ph ha) hs hw hp1, fun s F H σ hh sm hc D q => ?_⟩
  obtain ⟨k1, k2⟩ := conj_app hc
  obtain ⟨k2, k3⟩ := conj_app k2
  obtain ⟨k3, k4, _⟩ := conj_app k3
  refine r s F H σ hh sm k1 _ fun b u F1 H1 g1 hh1 n1 n2 e1 ⟨ys, u1, u2, u3⟩ => ?_
  subst u1
  obtain ⟨pp, vs, f1, f2, f3, f4, f5⟩ := own_list hh1 h
  have ne : pp ≠ b := fun z => by
    subst z
    obtain ⟨ω', f', h'⟩ := d1.own i _ _ h
    obtain ⟨q1, q2, w1, _, w3, _⟩ := hh.at_ i _ _ h' f1
    cases w1
    rw [n1] at w3; cases w3
  refine ⟨.ref pp, f1, rl s F1 H1 σ hh1 g1.fh k2 _ fun F2 H2 g2 hh2 => rh s F2 H2 σ hh2 g2.fh k3 _ fun F3 H3 g3 hh3 => ?_⟩
  rw [msAt_nil] at g2 g3
  have g23 := g2.trans g3
  obtain ⟨pp', vs', f1', f2', f3', f4', f5'⟩ := own_list hh3 h
  rw [f1] at f1'; cases f1'
  have ys3 := paired_mono (fun a b r => τ.mono g23.ff r) u2
  refine ⟨pp, b, vs', ys, rfl, rfl, ne, f3', g23.same _ _ e1, by rw [f4'.length, u2.length]; exact k4, ?_⟩
  have gs : GrS mus Δ σ Δ1 σ F H F1 H1 := gs0 hm d1 hh g1
  have gs2 : GrS mus Δ1 σ Δ1 σ F1 H1 F3 H3 := gs0 (ms := []) trivial Diff.refl hh1 (by rw [msAt_nil]; exact g23)
  have gs3 : GrS mus Δ1 σ (Δ1.set i (.ow (oList τ) fun s => putL (f s) (flo s) (fhi s) (fe s))) σ F3 H3 F3 (upd H3 pp (.lst (putL vs' (flo s) (fhi s) ys))) := gs0 (ms := [i]) ⟨⟨_, _, h⟩, trivial⟩ (diff_mut h) hh3 (gr_mut g3.fh f2' (by rw [f3']; exact fun z => nomatch z) f1)
  refine q σ F3 _ ((gs.trans gs2).trans gs3) (hh3.mut h f1 ⟨_, rfl, ?_, ?_⟩)
  · unfold putL
    rw [f4'.length]
    exact paired_app (paired_app (paired_take _ f4') ys3) (paired_drop _ f4')
  · unfold putL
    rw [List.length_append, List.length_append, List.length_take, List.length_drop]
    have := k4
    omega
/-! #### effects behind and, or -/
end
end Dx

/-! Dx, part O: extend, reverse, clear, count, in, sum, sorted, list, slices with a step, calls by keyword. -/
namespace Dx
open PySem PySem.Spec PyProof PyProof.Rows L2
section
variable {K : PySem.W.Frag} {X : Cx} {S R R' : Type} {Δ Δ1 Δ2 Δ3 : Ctx K S} {e a b : Expr} {es : List Expr} {pos p' px apos : Pos} {τ τ1 τ2 L L1 L2' : Ty K} {ω : OTy K} {ms m1 m2 m3 : List Nat} {c1 c2 c3 cs : List (S → Prop)} {ta tb : TE} {tl : TA} {i j : Nat} {x : Str} {fm : Fm K R'}
/-- x.extend(e) -/
theorem DX.extend {f fe : S → List τ.α} (he : DX K X Δ e (tList τ) ms c1 Δ1 fe ta) {f0 : S → List τ.α} (h0 : Δ[i]? = some (.ow (oList τ) f0)) (h : Δ1[i]? = some (.ow (oList τ) f)) (hN : X.N[i]? = some x := by rfl) (hv : Vis X.env.scope x := by first | exact Or.inl rfl | exact Or.inr (Or.inl rfl) | exact Or.inr (Or.inr rfl)) (hd : (x == ("__debug__" : Str)) = false := by decide)
    (hcd : (x == ("__classdict__" : Str)) = false := by decide) (hbase : attributeBase (.Name x px) "extend" X.env (eval (.Name x px) X.env) = eval (.Name x px) X.env := by rfl)
    (hfew : ((backTo pos (starEach [e] X.env)).all (fun x => !x.1) && (backToKw pos (keywordEach [] X.env)).all (fun x => x.1.isSome)
      && decide ([e].length + ([] : List Keyword).length + (if ([] : List Keyword).isEmpty then 0 else 1) < 30)) = true := by rfl)
    (hline : (apos.endLine == pos.line) = true := by rfl) (hs : starEach [e] X.env = (false, eval e X.env) :: starEach [] X.env := by rfl) (hplain : (backTo pos (starEach [] X.env)).any (·.1) = false := by rfl) (hK : X.K = K := by rfl) :
    DX K X Δ (.Call (.Attribute (.Name x px) "extend" apos) [e] [] pos) (tNone K) (ms ++ [i]) (c1 ++ [fun s => (f s).length + (fe s).length ≤ sizeLine]) (Δ1.set i (.ow (oList τ) fun s => f s ++ fe s)) (fun _ => ()) (tBM K "list" rExtend (tVar i) (tCons ta tNil)) := by
  subst hK
  obtain ⟨d1, p, r⟩ := he
  refine ⟨d1.trans (diff_mut h), pe_bm PySem.F.plainAttrs_list PySem.F.slot_list_extend PySem.F.type_list_extend mt_extend (pe_var hN hv hd hcd) (pa_cons p pa_nil hs) hbase hfew hline hs hplain, fun s F H σ hh sm hc Q q => ?_⟩
  obtain ⟨k1, k2, _⟩ := conj_app hc
  obtain ⟨p0, vs0, e1, _, e3, _⟩ := own_list hh h0
  have hl : tyV X.K "list" (.ref p0) H := .inl ⟨rfl, _, .inl (.inl e3)⟩
  refine ⟨.ref p0, e1, hl, r s F H σ hh sm k1 _ fun v F1 H1 g1 hh1 ⟨b1, ys, ev, eb, w1, w2⟩ => ?_⟩
  obtain ⟨p1, vs, f1, f2, f3, f4, f5⟩ := own_list hh1 h
  rw [e1] at f1; cases f1
  refine ⟨p0, b1, vs, ys, rfl, by rw [ev], f3, g1.fh _ _ eb, by rw [f4.length, w1.length]; exact k2, ?_⟩
  have g2 := gr_mut (i := i) (u' := .lst (vs ++ ys)) g1.fh f2 (by rw [f3]; exact fun z => nomatch z) e1
  refine q _ F1 _ ((g1.mono (msAt_l (m2 := [i]))).trans (g2.mono (msAt_r (m1 := ms)))) (hh1.mut h e1 ⟨_, rfl, paired_app f4 w1, ?_⟩) rfl
  rw [List.length_append]
  exact k2
theorem paired_rev {α β : Type} {R : α → β → Prop} : ∀ {xs : List α} {ys : List β}, Paired R xs ys → Paired R xs.reverse ys.reverse
  | _, _, .nil => .nil
  | _, _, .cons r t => by
    rw [List.reverse_cons, List.reverse_cons]
    exact paired_app (paired_rev t) (.cons r .nil)
/-- x.reverse() -/
theorem DX.reverse {f : S → List τ.α} (h : Δ[i]? = some (.ow (oList τ) f)) (hN : X.N[i]? = some x := by rfl) (hv : Vis X.env.scope x := by first | exact Or.inl rfl | exact Or.inr (Or.inl rfl) | exact Or.inr (Or.inr rfl)) (hd : (x == ("__debug__" : Str)) = false := by decide)
    (hcd : (x == ("__classdict__" : Str)) = false := by decide) (hbase : attributeBase (.Name x px) "reverse" X.env (eval (.Name x px) X.env) = eval (.Name x px) X.env := by rfl)
    (hline : (apos.endLine == pos.line) = true := by rfl) (hK : X.K = K := by rfl) :
    DX K X Δ (.Call (.Attribute (.Name x px) "reverse" apos) [] [] pos) (tNone K) [i] [] (Δ.set i (.ow (oList τ) fun s => (f s).reverse)) (fun _ => ()) (tBM0 K "list" rReverse (tVar i)) := by
  subst hK
  refine ⟨diff_mut h, pe_bm0 PySem.F.plainAttrs_list PySem.F.slot_list_reverse PySem.F.type_list_reverse mt_reverse (pe_var hN hv hd hcd) hbase hline, fun s F H σ hh sm hc Q q => ?_⟩
  obtain ⟨p0, vs, e1, e2, e3, e4, e5⟩ := own_list hh h
  have hl : tyV X.K "list" (.ref p0) H := .inl ⟨rfl, _, .inl (.inl e3)⟩
  refine ⟨.ref p0, e1, hl, p0, vs, rfl, rfl, e3, ?_⟩
  have g2 := gr_mut (i := i) (u' := .lst vs.reverse) sm e2 (by rw [e3]; exact fun z => nomatch z) e1
  refine q _ F _ g2 (hh.mut h e1 ⟨_, rfl, paired_rev e4, ?_⟩) rfl
  rw [List.length_reverse]
  exact e5
/-- x.clear() -/
theorem DX.clear {f : S → List τ.α} (h : Δ[i]? = some (.ow (oList τ) f)) (hN : X.N[i]? = some x := by rfl) (hv : Vis X.env.scope x := by first | exact Or.inl rfl | exact Or.inr (Or.inl rfl) | exact Or.inr (Or.inr rfl)) (hd : (x == ("__debug__" : Str)) = false := by decide)
    (hcd : (x == ("__classdict__" : Str)) = false := by decide) (hbase : attributeBase (.Name x px) "clear" X.env (eval (.Name x px) X.env) = eval (.Name x px) X.env := by rfl)
    (hline : (apos.endLine == pos.line) = true := by rfl) (hK : X.K = K := by rfl) :
    DX K X Δ (.Call (.Attribute (.Name x px) "clear" apos) [] [] pos) (tNone K) [i] [] (Δ.set i (.ow (oList τ) fun _ => [])) (fun _ => ()) (tBM0 K "list" rClear (tVar i)) := by
  subst hK
  refine ⟨diff_mut h, pe_bm0 PySem.F.plainAttrs_list PySem.F.slot_list_clear PySem.F.type_list_clear mt_clear (pe_var hN hv hd hcd) hbase hline, fun s F H σ hh sm hc Q q => ?_⟩
  obtain ⟨p0, vs, e1, e2, e3, e4, e5⟩ := own_list hh h
  have hl : tyV X.K "list" (.ref p0) H := .inl ⟨rfl, _, .inl (.inl e3)⟩
  refine ⟨.ref p0, e1, hl, p0, vs, rfl, rfl, e3, ?_⟩
  have g2 := gr_mut (i := i) (u' := .lst []) sm e2 (by rw [e3]; exact fun z => nomatch z) e1
  exact q _ F _ g2 (hh.mut h e1 ⟨[], rfl, .nil, Nat.zero_le _⟩) rfl
theorem paired_ints : ∀ {vs : List V} {xs : List Int}, Paired (fun v x => v = V.int x) vs xs → vs = xs.map V.int
  | _, _, .nil => rfl
  | _, _, .cons r t => by rw [r, paired_ints t]; rfl
theorem paired_intsR : ∀ xs : List Int, Paired (fun v x => v = V.int x) (xs.map V.int) xs
  | [] => .nil
  | x :: xs => .cons rfl (paired_intsR xs)
/-- sum, max, min of a list of ints -/
theorem DX.sum {to : L.α → List Int} {f : S → L.α} (hl : LL L (tInt K) to) (hm : X.mg "sum" = none) (he : DX K X Δ e L ms c1 Δ1 f ta) (hK : X.K = K := by rfl) (hcm : X.calm = true := by rfl) (hg : Gl X "sum" := by rfl) (hs : starEach [e] X.env = (false, eval e X.env) :: starEach [] X.env := by rfl) (hpl : (backTo pos (starEach [] X.env)).any (·.1) = false := by rfl) :
    DX K X Δ (.Call (.Name "sum" px) [e] [] pos) (tInt K) ms (c1 ++ []) Δ1 (fun s => (to (f s)).sum) (tCB (rSum K) (tCons ta tNil)) := by
  subst hK
  exact DX.call1 (τ1 := tInt X.K) (cc := []) (g := fun x => (to x).sum) (cr_sum hcm) (fun v x F H sm r _ Q q => by
    obtain ⟨a, vs, ev, sq, pr, _⟩ := hl r
    have e := paired_ints pr
    subst e
    exact ⟨a, to x, by rw [ev], sm.seq sq, q _ F H (Gr.refl sm) rfl⟩) hm (by decide +kernel) he hg (by decide) (by decide) hs hpl
/-! #### new lists from calls -/
theorem DO.call1 {r : List V → Hp → VK → Prop} {f : S → τ.α} {g : τ.α → ω.τ.α} (hr : ∀ v x F H, Same F H → τ.rep F v x → ∀ Q : VK, (∀ p u, H p = none → ω.own F u (g x) → Q (.ref p) (upd H p u)) → r [v] H Q) (he : DX K X Δ e τ ms c1 Δ1 f ta)
    (hp : PA X [e] (tCons ta tNil) → PE X (.Call (.Name x px) [e] [] pos) (tCB r (tCons ta tNil))) (hs : starEach [e] X.env = (false, eval e X.env) :: starEach [] X.env := by rfl) :
    DO K X Δ (.Call (.Name x px) [e] [] pos) ω ms c1 Δ1 (fun s => g (f s)) (tCB r (tCons ta tNil)) := by
  obtain ⟨d1, p, q1⟩ := he
  refine ⟨d1, hp (pa_cons p pa_nil hs), fun s F H σ hh sm hc Q q => ?_⟩
  refine q1 s F H σ hh sm hc _ fun v F1 H1 g1 hh1 r1 => hr v (f s) F1 H1 g1.fh r1 Q fun p u n o => ?_
  obtain ⟨g3, fn, e3⟩ := own_of_new g1.fh n o
  exact q p u F1 _ (g1.trans g3.of0) (hh1.grow g3) (g1.dom p n) fn e3 o
def sortI (xs : List Int) : List Int := xs.mergeSort (fun a b => decide (a ≤ b))
theorem sortI_perm (xs : List Int) : (sortI xs).Perm xs := List.mergeSort_perm _ _
theorem sortI_pw (xs : List Int) : (sortI xs).Pairwise (· ≤ ·) := by
  have h := List.pairwise_mergeSort (le := fun (a b : Int) => decide (a ≤ b)) (by intro a b c h1 h2; simp at *; omega) (by intro a b; simp; omega) xs
  exact h.imp fun h => by simpa using h
theorem sort_unique : ∀ {xs ys : List Int}, xs.Perm ys → xs.Pairwise (· ≤ ·) → ys.Pairwise (· ≤ ·) → xs = ys := fun p h1 h2 =>
  p.eq_of_pairwise (fun a b _ _ h h' => Int.le_antisymm h h') h1 h2
/-- sorted(e), ints -/
theorem DO.sorted {to : L.α → List Int} {f : S → L.α} (hl : LL L (tInt K) to) (hm : X.mg "sorted" = none) (he : DX K X Δ e L ms c1 Δ1 f ta) (hK : X.K = K := by rfl) (hg : Gl X "sorted" := by rfl) (hs : starEach [e] X.env = (false, eval e X.env) :: starEach [] X.env := by rfl) (hpl : (backTo pos (starEach [] X.env)).any (·.1) = false := by rfl) :
    DO K X Δ (.Call (.Name "sorted" px) [e] [] pos) (oList (tInt K)) ms c1 Δ1 (fun s => sortI (to (f s))) (tCB (rSortedI K) (tCons ta tNil)) := by
  subst hK
  refine DO.call1 (ω := oList (tInt X.K)) (g := fun x => sortI (to x)) (fun v x F H sm r Q q => ?_) he (fun pa => pe_callB cr_sortedI hg hm (by decide +kernel) pa (by decide) (by decide) hs hpl) hs
  obtain ⟨a, vs, ev, sq, pr, z⟩ := hl r
  have e := paired_ints pr
  subst e
  refine ⟨a, to x, by rw [ev], sm.seq sq, fun ns' p h1 h2 n => ?_⟩
  have e2 : ns' = sortI (to x) := sort_unique (h1.trans (sortI_perm _).symm) h2 (sortI_pw _)
  subst e2
  exact q p _ n ⟨_, rfl, paired_intsR _, by rw [(sortI_perm _).length_eq]; exact z⟩
/-- list(e) of a list -/
theorem DO.list {to : L.α → List τ.α} {f : S → L.α} (hl : LL L τ to) (hm : X.mg "list" = none) (he : DX K X Δ e L ms c1 Δ1 f ta) (hK : X.K = K := by rfl) (hg : Gl X "list" := by rfl) (hs : starEach [e] X.env = (false, eval e X.env) :: starEach [] X.env := by rfl) (hpl : (backTo pos (starEach [] X.env)).any (·.1) = false := by rfl) :
    DO K X Δ (.Call (.Name "list" px) [e] [] pos) (oList τ) ms c1 Δ1 (fun s => to (f s)) (tCB (fun xs H Q => ∃ p ys, xs = [.ref p] ∧ (SqL K H p ys ∨ SqT K H p ys) ∧ ∀ l, H l = none → Q (.ref l) (upd H l (.lst ys))) (tCons ta tNil)) := by
  subst hK
  refine DO.call1 (ω := oList τ) (g := fun x => to x) (fun v x F H sm r Q q => ?_) he (fun pa => pe_callTy call_list_of hg hm (by decide +kernel) pa (by decide) (by decide) hs hpl) hs
  obtain ⟨a, vs, ev, sq, pr, z⟩ := hl r
  exact ⟨a, vs, by rw [ev], .inl (sm.seq sq), fun p n => q p _ n ⟨_, rfl, pr, z⟩⟩
/-! #### in, not in, count -/
section
variable {f : S → Int} {g : S → L.α} {to : L.α → List Int} {xs : L.α}
end
section
variable {f : S → Int} {g : S → Int × Int}
end
/-- xs.count(e), ints; xs is data that stays -/
theorem DX.count {to : L.α → List Int} {f : S → L.α} {fe : S → Int} (hl : LL L (tInt K) to) (h : Δ[i]? = some (.fz L f)) (he : DX K X Δ e (tInt K) ms c1 Δ1 fe ta) (hN : X.N[i]? = some x := by rfl) (hv : Vis X.env.scope x := by first | exact Or.inl rfl | exact Or.inr (Or.inl rfl) | exact Or.inr (Or.inr rfl)) (hd : (x == ("__debug__" : Str)) = false := by decide)
    (hcd : (x == ("__classdict__" : Str)) = false := by decide) (hbase : attributeBase (.Name x px) "count" X.env (eval (.Name x px) X.env) = eval (.Name x px) X.env := by rfl)
    (hfew : ((backTo pos (starEach [e] X.env)).all (fun x => !x.1) && (backToKw pos (keywordEach [] X.env)).all (fun x => x.1.isSome)
      && decide ([e].length + ([] : List Keyword).length + (if ([] : List Keyword).isEmpty then 0 else 1) < 30)) = true := by rfl)
    (hline : (apos.endLine == pos.line) = true := by rfl) (hs : starEach [e] X.env = (false, eval e X.env) :: starEach [] X.env := by rfl) (hplain : (backTo pos (starEach [] X.env)).any (·.1) = false := by rfl) (hK : X.K = K := by rfl) :
    DX K X Δ (.Call (.Attribute (.Name x px) "count" apos) [e] [] pos) (tInt K) ms c1 Δ1 (fun s => ((to (f s)).count (fe s) : Int)) (tBM K "list" (rCntI K) (tVar i) (tCons ta tNil)) := by
  subst hK
  obtain ⟨d1, p, r⟩ := he
  refine ⟨d1, pe_bm PySem.F.plainAttrs_list PySem.F.slot_list_count PySem.F.type_list_count mt_lcount (pe_var hN hv hd hcd) (pa_cons p pa_nil hs) hbase hfew hline hs hplain, fun s F H σ hh sm hc Q q => ?_⟩
  have hi : i < σ.length := by rw [hh.len]; exact (List.getElem?_eq_some_iff.mp h).1
  obtain ⟨o, ho⟩ : ∃ o, σ[i]? = some o := ⟨_, List.getElem?_eq_getElem hi⟩
  obtain ⟨v, e, r0⟩ := hh.at_ i _ o h ho
  obtain ⟨a, vs, ev, sq, pr, _⟩ := hl r0
  have e2 := paired_ints pr
  subst e2
  subst ev
  refine ⟨.ref a, by rw [ho, e], .inl ⟨rfl, _, sm.seq sq⟩, r s F H σ hh sm hc _ fun w F1 H1 g1 hh1 r1 => ⟨a, to (f s), fe s, rfl, by rw [show w = .int (fe s) from r1], g1.fh.seq (g1.ff.seq sq), q _ F1 H1 g1 hh1 rfl⟩⟩
end
end Dx

/-! Dx, part P: slices with a step, calls by keyword. -/
namespace Dx
open PySem PySem.Spec PyProof PyProof.Rows L2
/-- the items of xs[lo:hi:st] -/
def stepL {α : Type} (xs : List α) (lo hi st : Option Int) : List α := (sliceRange (sliceBounds lo hi st xs.length).1 (sliceBounds lo hi st xs.length).2.1 (sliceBounds lo hi st xs.length).2.2).filterMap (xs[·]?)
theorem vals_pick {xs : List V} {us : List Value} (r : Vals xs us) : ∀ is : List Nat, Vals (is.filterMap (xs[·]?)) (is.filterMap (us[·]?))
  | [] => .nil
  | i :: is => by
    rw [List.filterMap_cons, List.filterMap_cons]
    cases h : xs[i]? with
    | none =>
      have h2 : us[i]? = none := by rw [List.getElem?_eq_none_iff, ← r.length]; exact List.getElem?_eq_none_iff.mp h
      rw [h2]
      exact vals_pick r is
    | some v =>
      obtain ⟨u, hu, ru⟩ := r.get h
      rw [hu]
      exact .cons ru (vals_pick r is)
theorem paired_pick {α β : Type} {R : α → β → Prop} {xs : List α} {us : List β} (r : Paired R xs us) : ∀ is : List Nat, Paired R (is.filterMap (xs[·]?)) (is.filterMap (us[·]?))
  | [] => .nil
  | i :: is => by
    rw [List.filterMap_cons, List.filterMap_cons]
    cases h : us[i]? with
    | none =>
      have h2 : xs[i]? = none := by rw [List.getElem?_eq_none_iff, r.length]; exact List.getElem?_eq_none_iff.mp h
      rw [h2]
      exact paired_pick r is
    | some v =>
      obtain ⟨u, hu, ru⟩ := paired_at r h
      rw [hu]
      exact .cons ru (paired_pick r is)
theorem step_pick (its : List Value) (lo hi st : Option Int) : slicePick its.toArray lo hi st = (stepL its lo hi st).toArray := by
  unfold slicePick stepL
  simp only [List.size_toArray]
  congr 1
  congr 1
  funext i
  simp
theorem stepL_len {α : Type} (d : α) (xs : List α) (lo hi st : Option Int) : (stepL xs lo hi st).length ≤ xs.length := by
  have h := slicePick_size_le (xs.map fun _ => Value.none).toArray lo hi st
  have e : (slicePick (xs.map fun _ => Value.none).toArray lo hi st).size = (stepL xs lo hi st).length := by
    rw [step_pick, List.size_toArray]
    unfold stepL
    rw [List.length_map]
    generalize sliceRange _ _ _ = is
    induction is with
    | nil => rfl
    | cons i is ih =>
      rw [List.filterMap_cons, List.filterMap_cons, List.getElem?_map]
      cases xs[i]? with
      | none => exact ih
      | some v =>
        show (_ :: _).length = (_ :: _).length
        rw [List.length_cons, List.length_cons]
        exact congrArg (· + 1) ih
  rw [e] at h
  simpa using h
section
variable {K : PySem.W.Frag} {X : Cx} {S R R' : Type} {Δ Δ1 Δ2 Δ3 Δ4 : Ctx K S} {e a b : Expr} {es : List Expr} {pos p' p2 px apos : Pos} {τ τ1 τ2 L L1 L2' : Ty K} {ω : OTy K} {ms m1 m2 m3 m4 : List Nat} {c1 c2 c3 c4 cs : List (S → Prop)} {ta tb te : TE} {tl : TA} {i j : Nat} {x : Str} {fm : Fm K R'} {lo hi : Option Expr} {st : Expr} {tlo thi tst : TO}
def tSlS (K : PySem.W.Frag) (te : TE) (tl th ts : TO) : TE := fun σ H Q => te σ H fun x H1 => tl σ H1 fun l H2 => th σ H2 fun u H3 => ts σ H3 fun o H4 => ∃ a xs, x = .ref a ∧ SqL K H4 a xs ∧ o ≠ some 0 ∧ ∀ p, H4 p = none → Q (.ref p) (upd H4 p (.lst (stepL xs l u o)))
theorem pe_sliceS (he : PE X e te) (hl : PO X lo tlo) (hu : PO X hi thi) (hs : PO X (some st) tst) (hlt : ∀ o r, letTemporaryGo e o r = pure () := by intro _ _; rfl) : PE X (.Subscript e (.Slice lo hi (some st) p2) pos) (tSlS X.K te tlo thi tst) := by
  refine ⟨fun pins s σ H Q I h => ?_⟩
  refine wpAny_Subscript_Slice_step slot_list_getitem.lookup (thn (he.run pins s σ H _ I h) fun v s1 ⟨x, H1, I1, r1, q1⟩ => ?_) hlt
  refine wpAny_Slice (thn (hl.run pins s1 σ H1 _ I1 q1) fun vl s2 ⟨l, H2, I2, pl, q2⟩ => thn (hu.run pins s2 σ H2 _ I2 q2) fun vu s3 ⟨u, H3, I3, pu, q3⟩ => thn (hs.run pins s3 σ H3 _ I3 q3) fun vs s4 ⟨o, H4, I4, ps, q4⟩ => ?_)
  obtain ⟨a, xs, rfl, hx, h0, q⟩ := q4
  cases r1
  have I5 : Inv X pins σ H4 { s4 with heap := s4.heap.push { cls := .type "slice", data := .fields #[vl, vu, vs] } } := I4.kept (t' := s4.toks) fun b ob q => Heap.get?_push_of_some _ q
  obtain ⟨its, r, ht, hz⟩ := I5.list hx
  have hlen := r.length
  refine ⟨ht.isList.typeIs, ?_⟩
  refine wpAny_getItem_list_slice ht.isList (Heap.IsSliceOf.new ..) pl pu ps h0 ?_ (by rw [List.size_toArray] <;> omega)
  rw [step_pick]
  refine ⟨.ref _, _, I5.laid (t' := s4.toks) (o := .lst (stepL xs l u o)) (fun b ob q => Heap.get?_push_of_some _ q) (Nat.le_refl _) ?_, rfl, q _ (I5.hok.fresh (Nat.le_refl _))⟩
  refine ⟨Nat.le_trans (stepL_len V.non xs l u o) hz, _, 0, ?_, Heap.get?_push_size _ rfl⟩
  unfold stepL
  rw [hlen]
  exact vals_pick r _
theorem DO.slS {to : L.α → List τ.α} {f : S → L.α} {flo fhi fst : S → Option Int} (hl : LL L τ to) (ha : DX K X Δ a L m1 c1 Δ1 f ta) (h1 : DPo K X Δ1 lo m2 c2 Δ2 flo tlo) (h2 : DPo K X Δ2 hi m3 c3 Δ3 fhi thi) (h3 : DPo K X Δ3 (some st) m4 c4 Δ4 fst tst) (h0 : ∀ s, fst s ≠ some 0) (hK : X.K = K := by rfl) (hlt : ∀ o r, letTemporaryGo a o r = pure () := by intro _ _; rfl) :
    DO K X Δ (.Subscript a (.Slice lo hi (some st) p2) pos) (oList τ) (m1 ++ (m2 ++ (m3 ++ m4))) (c1 ++ (c2 ++ (c3 ++ c4))) Δ4 (fun s => stepL (to (f s)) (flo s) (fhi s) (fst s)) (tSlS K ta tlo thi tst) := by
  subst hK
  obtain ⟨d1, p1, r1⟩ := ha
  obtain ⟨d2, q2, r2⟩ := h1
  obtain ⟨d3, q3, r3⟩ := h2
  obtain ⟨d4, q4, r4⟩ := h3
  refine ⟨d1.trans (d2.trans (d3.trans d4)), pe_sliceS p1 q2 q3 q4 hlt, fun s F H σ hh sm hc Q q => ?_⟩
  obtain ⟨k1, k2⟩ := conj_app hc
  obtain ⟨k2, k3⟩ := conj_app k2
  obtain ⟨k3, k4⟩ := conj_app k3
  refine r1 s F H σ hh sm k1 _ fun v F1 H1 g1 hh1 w1 => r2 s F1 H1 σ hh1 g1.fh k2 _ fun F2 H2 g2 hh2 => r3 s F2 H2 σ hh2 g2.fh k3 _ fun F3 H3 g3 hh3 => r4 s F3 H3 σ hh3 g3.fh k4 _ fun F4 H4 g4 hh4 => ?_
  obtain ⟨a, vs, ev, sq, pr, z⟩ := hl (L.mono (g2.ff.trans (g3.ff.trans g4.ff)) w1)
  refine ⟨a, vs, ev, g4.fh.seq sq, h0 s, fun p n => ?_⟩
  have ow : (oList τ).own F4 (.lst (stepL vs (flo s) (fhi s) (fst s))) (stepL (to (f s)) (flo s) (fhi s) (fst s)) := ⟨_, rfl, by unfold stepL; rw [pr.length]; exact paired_pick pr _, Nat.le_trans (by cases e : to (f s) with | nil => simp [stepL] | cons y ys => exact stepL_len y _ _ _ _) z⟩
  have g12 : Gr (MsAt (m1 ++ (m2 ++ (m3 ++ m4))) σ) F H F4 H4 := (g1.mono (msAt_l (m2 := m2 ++ (m3 ++ m4)))).trans ((g2.mono (fun a h => msAt_r (m1 := m1) a (msAt_l (m2 := m3 ++ m4) a h))).trans ((g3.mono fun a h => msAt_r (m1 := m1) a (msAt_r (m1 := m2) a (msAt_l (m2 := m4) a h))).trans (g4.mono fun a h => msAt_r (m1 := m1) a (msAt_r (m1 := m2) a (msAt_r (m1 := m3) a h)))))
  obtain ⟨g5, fn, e5⟩ := own_of_new (ω := oList τ) g4.fh n ow
  exact q p _ F4 _ (g12.trans g5.of0) (hh4.grow g5) (g12.dom p n) fn e5 ow
/-! #### calls by keyword -/
/-- keyword arguments: data that stays -/
def DKs (K : PySem.W.Frag) (X : Cx) (Δ : Ctx K S) (kws : List Keyword) (ms : List Nat) (cs : List (S → Prop)) (Δ1 : Ctx K S) (as : List (AK K S)) (t : TA) : Prop :=
  Diff ms Δ Δ1 ∧ L2.PK X kws t ∧ ∀ s F H σ, Holds Δ s F H σ → Same F H → Conj cs s → ∀ Q : List V → Hp → Prop, (∀ vs F' H', Gr (MsAt ms σ) F H F' H' → Holds Δ1 s F' H' σ → AkAll F' σ s as vs → Q vs H') → t σ H Q
theorem DKs.nil : DKs K X Δ [] [] [] Δ [] tNil := ⟨Diff.refl, pk_nil, fun s F H σ hh sm _ Q q => q [] F H (Gr.refl sm) hh rfl⟩
variable {kws : List Keyword} {nm : Option Str} {kp : Pos} {as ks as' : List (AK K S)} {tk : TA}
theorem DKs.cons {f : S → τ.α} (ha : DX K X Δ e τ m1 c1 Δ1 f ta) (hb : DKs K X Δ1 kws m2 c2 Δ2 as tl) : DKs K X Δ (⟨nm, e, kp⟩ :: kws) (m1 ++ m2) (c1 ++ c2) Δ2 (.fz τ f :: as) (tCons ta tl) := by
  obtain ⟨d1, pa, ra⟩ := ha
  obtain ⟨d2, pb, rb⟩ := hb
  refine ⟨d1.trans d2, pk_cons pa pb, fun s F H σ hh sm hc Q q => ?_⟩
  obtain ⟨h1, h2⟩ := conj_app hc
  refine ra s F H σ hh sm h1 _ fun v F1 H1 g1 hh1 r1 => ?_
  refine rb s F1 H1 σ hh1 g1.fh h2 _ fun vs F2 H2 g2 hh2 r2 => ?_
  exact q _ F2 H2 ((g1.mono (msAt_l (m2 := m2))).trans (g2.mono (msAt_r (m1 := m1)))) hh2 ⟨v, vs, rfl, τ.mono g2.ff r1, r2⟩
/-- as' are the arguments as, picked -/
inductive Pick (as : List (AK K S)) : List Nat → List (AK K S) → Prop
  | nil : Pick as [] []
  | cons {i : Nat} {is : List Nat} {a : AK K S} {r : List (AK K S)} : as[i]? = some a → Pick as is r → Pick as (i :: is) (a :: r)
theorem akAll_at {F : Hp} {σ : L2.St} {s : S} : ∀ {as : List (AK K S)} {vs : List V} {i : Nat} {a : AK K S}, AkAll F σ s as vs → as[i]? = some a → ∃ v, vs[i]? = some v ∧ AkRep F σ s a v
  | [], _, _, _, _, h => by simp at h
  | a :: as, _, 0, _, ⟨v, r, e, h1, _⟩, h => by simp at h; subst h; exact ⟨v, by rw [e]; rfl, h1⟩
  | a :: as, _, i + 1, _, ⟨v, r, e, _, h2⟩, h => by
    obtain ⟨w, e2, r2⟩ := akAll_at h2 (by simpa using h)
    exact ⟨w, by rw [e]; exact e2, r2⟩
theorem akAll_len {F : Hp} {σ : L2.St} {s : S} : ∀ {as : List (AK K S)} {vs : List V}, AkAll F σ s as vs → vs.length = as.length
  | [], _, h => by rw [show _ = [] from h]; rfl
  | a :: as, _, ⟨v, r, e, _, h2⟩ => by rw [e, List.length_cons, List.length_cons, akAll_len h2]
def pickV (is : List Nat) (vs : List V) : List V := is.map fun i => vs.getD i .non
theorem Pick.all {F : Hp} {σ : L2.St} {s : S} {vs : List V} {is : List Nat} (h : Pick as is as') (ha : AkAll F σ s as vs) : AkAll F σ s as' (pickV is vs) := by
  induction h with
  | nil => rfl
  | cons e _ ih =>
    obtain ⟨v, e2, r⟩ := akAll_at ha e
    exact ⟨v, _, by unfold pickV; rw [List.map_cons, List.getD_eq_getElem?_getD, e2]; rfl, r, ih⟩
/-- the call's keywords name the parameters that the places is tell -/
def BindsK (fd : FuncData) (ps : List Str) (n : Nat) (kn : List Str) (is : List Nat) : Prop :=
  ∀ (s : Shared) (us ws : List Value), us.length = n → ws.length = kn.length → BindsTo s fd ⟨us, kn.zip ws⟩ (ps.zip (is.map fun i => (us ++ ws).getD i .none))
theorem vals_app {xs ys : List V} {us ws : List Value} (h : Vals xs us) (h' : Vals ys ws) : Vals (xs ++ ys) (us ++ ws) := h.append h'
theorem vals_getD {xs : List V} {us : List Value} (h : Vals xs us) (is : List Nat) (hi : ∀ i ∈ is, i < xs.length) : Vals (pickV is xs) (is.map fun i => us.getD i .none) := by
  induction is with
  | nil => exact .nil
  | cons i is ih =>
    have hl := hi i List.mem_cons_self
    obtain ⟨u, e, r⟩ := h.get (List.getElem?_eq_getElem hl)
    refine .cons ?_ (ih fun j hj => hi j (List.mem_cons_of_mem _ hj))
    show RelV (xs.getD i V.non) (us.getD i Value.none)
    rw [List.getD_eq_getElem?_getD, List.getD_eq_getElem?_getD, e, List.getElem?_eq_getElem hl]
    exact r
def tCallG (sp : Sp) (n : Nat) (kn : List Str) (is : List Nat) (t tk : TA) : TE := fun σ H Q => t σ H fun vs H1 => tk σ H1 fun zs H2 => vs.length = n ∧ zs.length = kn.length ∧ sp (pickV is (vs ++ zs)) H2 Q E0
section
variable {k n : Nat} {f : Addr} {fd : FuncData} {ps kn : List Str} {sp : Sp} {is : List Nat}
theorem run_gk {pins : List (Addr × Obj)} {σ : L2.St} {H : Hp} {s : Shared} {Q : VK} {us ws : List Value} {vs zs : List V} (G : FnG X.prog X.w X.K X.mg X.base CX0 k f fd ps sp) (hr : RoomG k X.A) (hb : BindsK fd ps n kn is) (hi : ∀ i ∈ is, i < n + kn.length)
    (I : Inv X pins σ H s) (r : Vals vs us) (rz : Vals zs ws) (hn : vs.length = n) (hz : zs.length = kn.length) (h : sp (pickV is (vs ++ zs)) H Q E0) : wpAny (model X.prog X.w) X.A (call (.ref f) us (kn.zip ws)) (EP X pins σ Q) X.xe s := by
  have r2 := vals_getD (vals_app r rz) is fun i q => by rw [List.length_append, hn, hz]; exact hi i q
  refine wpAny_call (codeAny_mono (G.run X.A X.stack s H ⟨us, kn.zip ws⟩ _ _ Q E0 hr I.env0 (hb s us ws (by rw [← r.length]; exact hn) (by rw [← rz.length]; exact hz)) r2 h) fun res s' hq => ?_)
  cases res with
  | error e => exact pass0 pins σ H s e s' I hq
  | ok fl => cases fl with
    | ret u => exact I.after hq
    | next => exact hq.elim
    | brk => exact hq.elim
    | cont => exact hq.elim
theorem pe_callGK0 (G : FnG X.prog X.w X.K X.mg X.base CX0 k f fd ps sp) (hr : RoomG k X.A) (hg : Gl X x) (hm : X.mg x = some (.ref f)) (hk : PySem.W.keepIn X.K (.ref f) = true) (hb : BindsK fd ps 0 kn is) (hi : ∀ i ∈ is, i < 0 + kn.length) (hkw : L2.PK X kws tk)
    (hall : (backToKw pos (keywordEach kws X.env)).all (·.1.isSome) = true := by rfl) (hks : (backToKw pos (keywordEach kws X.env)).filterMap (·.1) = kn := by rfl)
    (hdb : (x == ("__debug__" : Str)) = false := by decide) (hpl : ((backTo pos (starEach [] X.env)).any (·.1) || (backToKw pos (keywordEach kws X.env)).any (·.1.isNone)) = false := by rfl) :
    PE X (.Call (.Name x px) [] kws pos) (tCallG sp 0 kn is tNil tk) := by
  refine ⟨fun pins s σ H Q I h => wpAny_Call_Name_kw (ld_glob I hg hm ?_ hdb)⟩
  refine PySem.W.callWith_KW0 (h₀ := X.base) I.ok.mod.kin hk hall (thn (hkw.run pos pins s σ H _ I h) fun ws s2 ⟨zs, H2, I2, rz, q1, q2, q3⟩ => ⟨I2.kIn, ?_⟩) hpl
  rw [hks]
  exact run_gk G hr hb hi I2 .nil rz q1 q2 q3
variable {p : HP fm.ps → Prop} {fv : HP fm.ps → R'} {g : S → HP fm.ps}
/-- f(k = v, ..), data that stays -/
theorem DC.callK0 (G : FnG X.prog X.w K X.mg X.base CX0 k f fd ps (SpOf fm p fv)) (hr : RoomG k X.A) (hm : X.mg x = some (.ref f)) (hk : PySem.W.keepIn K (.ref f) = true) (hb : BindsK fd ps 0 kn is) (hi : ∀ i ∈ is, i < 0 + kn.length)
    (ha : DKs K X Δ kws m1 c1 Δ1 as tk) (hka : as.length = kn.length) (hpk : Pick as is as') (har : Ar Δ1 as' fm.ps g) (hup : Up Δ1 as' fm.ps (fun s => fm.mv (fv (g s))) Δ1) (hnl : lent as' = []) (hK : X.K = K := by rfl) (hg : Gl X x := by rfl)
    (hall : (backToKw pos (keywordEach kws X.env)).all (·.1.isSome) = true := by rfl) (hks : (backToKw pos (keywordEach kws X.env)).filterMap (·.1) = kn := by rfl)
    (hdb : (x == ("__debug__" : Str)) = false := by decide) (hpl : ((backTo pos (starEach [] X.env)).any (·.1) || (backToKw pos (keywordEach kws X.env)).any (·.1.isNone)) = false := by rfl) :
    DC K X Δ (.Call (.Name x px) [] kws pos) fm m1 (c1 ++ [fun s => p (g s)]) Δ1 (fun s => fv (g s)) (tCallG (SpOf fm p fv) 0 kn is tNil tk) := by
  subst hK
  obtain ⟨d1, pa, ra⟩ := ha
  refine ⟨d1, pe_callGK0 G hr hg hm hk hb hi pa hall hks hdb hpl, fun s F H σ hh sm hc Q q => ?_⟩
  obtain ⟨k1, k2, _⟩ := conj_app hc
  refine ra s F H σ hh sm k1 _ fun vs F1 H1 g1 hh1 r1 => ⟨rfl, by rw [akAll_len r1, hka], ?_⟩
  have r2 := hpk.all r1
  show SpOf fm p fv (pickV is vs) H1 Q E0
  obtain ⟨w1, w2⟩ := har.holds hh1 g1.fh r2 (by rw [hnl]; exact List.nodup_nil)
  refine ⟨F1, g s, w1, g1.fh, k2, fun v F2 H2 g2 ro mo => ?_⟩
  have g2' : Gr No F1 H1 F2 H2 := g2.mono fun a ⟨j, hj, e⟩ => by
    obtain ⟨i, hi, _⟩ := har.muts 0 (us := []) rfl r2 j hj a e
    rw [hnl] at hi; cases hi
  exact q v F2 H2 (g1.trans g2'.of0) (hh1.grow g2') (ro.dom fun a h => g1.dom a h)
end
end
end Dx

/-! Dx, part Q: data of any kind. -/
namespace Dx
open PySem PySem.Spec PyProof PyProof.Rows L2
/-! #### what is asked of data of any kind -/
section
variable {K : PySem.W.Frag}
theorem rd_mono {F F' : Hp} {a : Addr} {u : HO} (h : Same F F') (r : Rd F a u) : Rd F' a u := r.elim (fun e => .inl (h _ _ e)) fun ⟨o, e⟩ => .inr ⟨o, h _ _ e⟩
theorem sqT_mono {F F' : Hp} {a : Addr} {vs : List V} (h : Same F F') (r : SqT K F a vs) : SqT K F' a vs := r.elim (fun e => .inl (rd_mono h e)) .inr
theorem dead_pe {X : Cx} {e : Expr} : PE X e (fun _ _ _ => False) := ⟨fun _ _ _ _ _ _ h => h.elim⟩
end
section
variable {K : PySem.W.Frag} {X : Cx} {S R R' : Type} {Δ Δ1 Δ2 Δ3 : Ctx K S} {e a b tg : Expr} {es elts : List Expr} {pos p' px apos : Pos} {τ τ1 τ2 L : Ty K} {ω : OTy K} {ms m1 m2 : List Nat} {c1 c2 cs : List (S → Prop)} {ta tb : TE} {tl : TA} {i j n m : Nat} {x : Str} {fm : Fm K R'} {sts : List Stmt}
/-- an expression that is not reached -/
theorem DX.dead {f : S → τ.α} : DX K X Δ e τ [] [fun _ => False] Δ f (fun _ _ _ => False) := ⟨Diff.refl, dead_pe, fun s F H σ hh sm hc Q q => hc.1.elim⟩
theorem DR.dead {fm : Fm K R} {f : S → R} : DR K X fm Δ sts [fun _ => False] f := ⟨fun _ _ _ => False, ⟨fun _ _ _ _ _ _ h => h.elim⟩, fun s F H σ hh sm hc D q => hc.1.elim⟩
/-! #### isinstance -/
/-! #### == -/
section
variable {k : Nat} {ga gb : S → PyData}
end
/-! #### zip of two lists, of two tuples -/
theorem walks_zipT {σ' : Ty K} {F0 : Hp} {a b : Addr} {vs ws : List V} {xs : List τ.α} {ys : List σ'.α} (h : SqT K F0 a vs) (p : Paired (τ.rep F0) vs xs) (z : xs.length ≤ sizeLine) (h2 : SqT K F0 b ws) (p2 : Paired (σ'.rep F0) ws ys) : Walks K (RZ.ItzT K a b) F0 (tTp [τ, σ']) (List.zip xs ys) where
  go := fun i x F H s1 s2 e => by
    obtain ⟨e1, e2⟩ := zip_get (α := τ.α) (β := σ'.α) xs ys i x e
    obtain ⟨v, ev, rv⟩ := paired_at p e1
    obtain ⟨w, ew, rw'⟩ := paired_at p2 e2
    refine ⟨⟨vs, ws, v, w, sqT_mono s2 (sqT_mono s1 h), sqT_mono s2 (sqT_mono s1 h2), ev, ew⟩, fun v' H' ⟨T, y1, y2, r1, r2, r3, r4, r5⟩ => ?_⟩
    have e5 := r4 vs (sqT_mono s2 (sqT_mono s1 h))
    rw [ev] at e5; cases e5
    have e6 := r5 ws (sqT_mono s2 (sqT_mono s1 h2))
    rw [ew] at e6; cases e6
    subst r1 r3
    have sf := s1.trans (same_new (o := .tup [v, w]) (s2.free r2))
    exact ⟨_, new_tup s2 r2, T, _, rfl, upd_same, v, [w], rfl, τ.mono sf rv, w, rfl, σ'.mono sf rw'⟩
  stop := fun i F H s1 s2 e => by
    have e := (zip_len (α := τ.α) (β := σ'.α) xs ys) ▸ e
    exact ⟨vs, ws, sqT_mono s2 (sqT_mono s1 h), sqT_mono s2 (sqT_mono s1 h2), by rw [p.length, p2.length]; omega⟩
  len := (zip_len (α := τ.α) (β := σ'.α) xs ys).symm ▸ (by omega)
end
end Dx

/-! Dx, part R: a comprehension whose element changes one own list; list(range(..)); a, b, .. = a list. -/
namespace Dx
open PySem PySem.Spec PyProof PyProof.Rows L2
section
variable {K : PySem.W.Frag} {S : Type} {Δ : Ctx K S} {s : S} {F H F' H' : Hp} {σ : L2.St} {i : Nat} {ω : OTy K}
/-- the object of the slot i was changed, other things grew -/
theorem Holds.growM {p : Addr} {u : HO} {f f' : S → ω.τ.α} (hh : Holds Δ s F H σ) (h : Δ[i]? = some (.ow ω f)) (hσ : σ[i]? = some (some (.ref p))) (g : Gr (fun a => a = p) F H F' H') (nf : F' p = none) (hp : H' p = some u) (o : ω.own F' u (f' s)) : Holds (Δ.set i (.ow ω f')) s F' H' σ where
  len := by rw [List.length_set, hh.len]
  at_ := fun j sl o' e1 e2 => by
    rcases get_set1 e1 with ⟨rfl, rfl, _⟩ | ⟨n1, e1⟩
    · rw [hσ] at e2; cases e2
      exact ⟨p, u, rfl, nf, hp, o⟩
    · have r := hh.at_ j sl o' e1 e2
      cases sl with
      | dead => trivial
      | fz τ k => obtain ⟨v, e, q⟩ := r; exact ⟨v, e, τ.mono g.ff q⟩
      | ow ω2 k =>
        obtain ⟨p2, u2, e4, n2, hp2, o2⟩ := r
        subst e4
        have ne : p2 ≠ p := fun z => hh.sep i j ω ω2 f k p n1 h e1 hσ (by rw [e2, z])
        refine ⟨p2, u2, rfl, ?_, g.keep _ _ hp2 ne, ω2.mono g.ff o2⟩
        cases x : F' p2 with
        | none => rfl
        | some o' =>
          rcases g.fresh p2 o' x with z | z
          · rw [n2] at z; cases z
          · rw [hp2] at z; cases z
  sep := fun j k ω1 ω2 g g' q ne e1 e2 e3 => by
    have ok : ∀ {j : Nat} {ω1 : OTy K} {g : S → ω1.τ.α}, (Δ.set i (.ow ω f'))[j]? = some (.ow ω1 g) → ∃ (ω' : OTy K) (g' : S → ω'.τ.α), Δ[j]? = some (.ow ω' g') := fun {j ω1 g} e => by
      rcases get_set1 e with ⟨rfl, _, _⟩ | ⟨_, e⟩
      · exact ⟨_, _, h⟩
      · exact ⟨_, _, e⟩
    obtain ⟨_, _, k1⟩ := ok e1
    obtain ⟨_, _, k2⟩ := ok e2
    exact hh.sep j k _ _ _ _ q ne k1 k2 e3
end
/-- the items made along -/
def lcE {M α β : Type} (fe : M → α → β) (st : M → α → M) : List α → M → List β
  | [], _ => []
  | x :: xs, m => fe m x :: lcE fe st xs (st m x)
@[irreducible] def LcE {M α β : Type} (fe : M → α → β) (st : M → α → M) (xs : List α) (m : M) : List β := lcE fe st xs m
theorem LcE_eq {M α β : Type} (fe : M → α → β) (st : M → α → M) (xs : List α) (m : M) : LcE fe st xs m = lcE fe st xs m := by unfold LcE; rfl
theorem lcE_len {M α β : Type} (fe : M → α → β) (st : M → α → M) : ∀ (xs : List α) (m : M), (lcE fe st xs m).length = xs.length
  | [], _ => rfl
  | x :: xs, m => by rw [lcE, List.length_cons, List.length_cons, lcE_len fe st xs]
theorem loopF_app {M α : Type} (st : M → α → M) : ∀ (xs ys : List α) (m : M), loopF st (xs ++ ys) m = loopF st ys (loopF st xs m)
  | [], _, _ => rfl
  | x :: xs, ys, m => by show loopF st (xs ++ ys) (st m x) = _; rw [loopF_app st xs ys]; rfl
theorem lcE_app {M α β : Type} (fe : M → α → β) (st : M → α → M) : ∀ (xs ys : List α) (m : M), lcE fe st (xs ++ ys) m = lcE fe st xs m ++ lcE fe st ys (loopF st xs m)
  | [], _, _ => rfl
  | x :: xs, ys, m => by show fe m x :: lcE fe st (xs ++ ys) (st m x) = _; rw [lcE_app fe st xs ys]; rfl
theorem loopC_at {M α : Type} (c : M → α → Prop) (st : M → α → M) : ∀ (xs : List α) (m : M) (i : Nat) (x : α), loopC c st xs m → xs[i]? = some x → c (loopF st (xs.take i) m) x
  | [], _, _, _, _, e => by simp at e
  | y :: xs, m, 0, x, h, e => by simp at e; subst e; exact h.1
  | y :: xs, m, i + 1, x, h, e => loopC_at c st xs (st m y) i x h.2 (by simpa using e)
section
variable {K : PySem.W.Frag} {X : Cx} {S R : Type} {Δ Δ1 Δ2 : Ctx K S} {st : Stmt} {e a b c tg iter elt : Expr} {es ifs : List Expr} {pos p' px apos : Pos} {τ τe τ1 τ2 L : Ty K} {ω ω1 ω2 : OTy K} {mus ms m1 m2 me is vs : List Nat} {c1 c2 c3 cs : List (S → Prop)} {ta tb te : TE} {tt tx : TT} {tl : TA} {i j : Nat} {x y : Str}
/-- the head of a turn: the slot i holds the state -/
def ctxM (Δ1 : Ctx K S) (i : Nat) (ω : OTy K) : Ctx K (S × ω.τ.α) := (Ctx.comap (T := S × ω.τ.α) Prod.fst Δ1).set i (.ow ω Prod.snd)
theorem ctxM_holds {s : S} {m : ω.τ.α} {F H : Hp} {σ : L2.St} (hh : Holds (Δ1.set i (.ow ω fun _ => m)) s F H σ) : Holds (ctxM Δ1 i ω) (s, m) F H σ := by
  refine AsC.holds (Δ := Δ1.set i (.ow ω fun _ => m)) (s := s) ⟨by simp [ctxM], fun k sl' e => ?_⟩ hh
  unfold ctxM at e
  rcases get_set1 e with ⟨rfl, rfl, hl⟩ | ⟨n, e⟩
  · exact .inr (.inr ⟨ω, fun _ => m, _, List.getElem?_set_self (by simpa using hl), rfl, rfl⟩)
  · rw [List.getElem?_map] at e
    obtain ⟨sl, q1, q2⟩ := Option.map_eq_some_iff.mp e
    subst q2
    rw [List.getElem?_set_ne n]
    cases sl with
    | dead => exact .inl rfl
    | fz τ f => exact .inr (.inl ⟨τ, f, _, q1, rfl, rfl⟩)
    | ow ω2 f => exact .inr (.inr ⟨ω2, f, _, q1, rfl, rfl⟩)
theorem lcE_sem {Δb Δb' : Ctx K ((S × ω.τ.α) × τ.α)} {fx : S → List τ.α} {wi : TI} {g : TG} {ce : List ((S × ω.τ.α) × τ.α → Prop)} {fe : (S × ω.τ.α) × τ.α → τe.α} {fm : (S × ω.τ.α) × τ.α → ω.τ.α} {f0 : S → ω.τ.α}
    (d1 : Diff ms Δ Δ1) (hi0 : Δ1[i]? = some (.ow ω f0)) (hvs : i ∉ vs)
    (ri : ∀ s F H σ, Holds Δ s F H σ → Same F H → Conj c1 s → ∀ R : It → Hp → Prop, (∀ J F' H', Gr (MsAt ms σ) F H F' H' → Holds Δ1 s F' H' σ → Walks K J F' τ (fx s) → R J H') → wi σ H R)
    (lg : Δb.length = (Ctx.comap (T := (S × ω.τ.α) × τ.α) Prod.fst (killL (ctxM Δ1 i ω) vs)).length) (rg : ∀ (s : (S × ω.τ.α) × τ.α) F H σ v, Holds (Ctx.comap (T := (S × ω.τ.α) × τ.α) Prod.fst (killL (ctxM Δ1 i ω) vs)) s F H σ → Same F H → τ.rep F v s.2 → ∀ Q : L2.St → Hp → Prop, (∀ σ1, Holds Δb s F H σ1 → (∀ a, Own Δb σ1 a → Own (Ctx.comap (T := (S × ω.τ.α) × τ.α) Prod.fst (killL (ctxM Δ1 i ω) vs)) σ a) → (∀ k, k ∉ is → σ1[k]? = σ[k]?) → Q σ1 H) → g v σ H Q)
    (re : ∀ s F H σ, Holds Δb s F H σ → Same F H → Conj ce s → ∀ Q : VK, (∀ v F' H', Gr (MsAt me σ) F H F' H' → Holds Δb' s F' H' σ → τe.rep F' v (fe s) → Q v H') → te σ H Q)
    (eb : Δb'[i]? = some (.ow ω fm)) (hme : ∀ k ∈ me, k = i) (his : ∀ j ∈ is, j ∈ vs) :
    ∀ s F H σ, Holds Δ s F H σ → Same F H → Conj (c1 ++ [fun s => loopC (fun m x => Conj ce ((s, m), x)) (fun m x => fm ((s, m), x)) (fx s) (f0 s)]) s → ∀ Q : VK, (∀ p u F' H', Gr (MsAt (ms ++ [i]) σ) F H F' H' → Holds (Δ1.set i (.ow ω fun s => LoopF (fun m x => fm ((s, m), x)) (fx s) (f0 s))) s F' H' σ → H p = none → F' p = none → H' p = some u → (oList τe).own F' u (LcE (fun m x => fe ((s, m), x)) (fun m x => fm ((s, m), x)) (fx s) (f0 s)) → Q (.ref p) H') → tLc wi g tYes te vs σ H Q := by
  intro s F H σ hh sm hcs Q q
  obtain ⟨k1, k2, _⟩ := conj_app hcs
  rw [LcE_eq] at q
  refine ri s F H σ hh sm k1 _ fun J F1 H1 g1 hh1 wk D hD => ?_
  have nD : F1 D = none := g1.fh.free hD
  have hil : i < σ.length := by rw [hh1.len]; exact (List.getElem?_eq_some_iff.mp hi0).1
  obtain ⟨o0, ho0⟩ : ∃ o, σ[i]? = some o := ⟨_, List.getElem?_eq_getElem hil⟩
  obtain ⟨p0, u0, ep0, np0, hp0, ow0⟩ := hh1.at_ i _ o0 hi0 ho0
  have hσ : σ[i]? = some (some (.ref p0)) := by rw [ho0, ep0]
  have pD : p0 ≠ D := fun z => by rw [z, hD] at hp0; cases hp0
  let ST : ω.τ.α → τ.α → ω.τ.α := fun m x => fm ((s, m), x)
  let FE : ω.τ.α → τ.α → τe.α := fun m x => fe ((s, m), x)
  have hset : ∀ (f : S → ω.τ.α), (Δ1.set i (.ow ω f))[i]? = some (.ow ω f) := fun f => List.getElem?_set_self (List.getElem?_eq_some_iff.mp hi0).1
  have h00 : Holds (Δ1.set i (.ow ω fun _ => f0 s)) s F1 (upd H1 D (.lst [])) σ := by
    refine Holds.growM (f := f0) hh1 hi0 hσ ((Gr.newO g1.fh hD).of0) np0 (by rw [upd_ne pD]; exact hp0) ow0
  refine ⟨fun n k H' => ∃ F' acc, k = (fx s).length - n ∧ n ≤ (fx s).length ∧ Gr (fun a => a = D ∨ a = p0) F1 (upd H1 D (.lst [])) F' H' ∧ F' D = none ∧ H' D = some (.lst acc) ∧ Paired (τe.rep F') acc (lcE FE ST ((fx s).take n) (f0 s)) ∧ Holds (Δ1.set i (.ow ω fun _ => loopF ST ((fx s).take n) (f0 s))) s F' H' σ,
    ⟨_, F1, [], rfl, Nat.zero_le _, Gr.refl (fun a o z => by rw [upd_ne (ne_of_none z nD)]; exact g1.fh a o z), nD, upd_same, by rw [List.take_zero]; exact .nil, by rw [List.take_zero]; exact h00⟩, ?_⟩
  rintro n k H' ⟨F', acc, rfl, hi, g', n', e', pr, hl⟩
  by_cases hlt : n < (fx s).length
  · refine .inr ?_
    have ex : (fx s)[n]? = some (fx s)[n] := List.getElem?_eq_getElem hlt
    obtain ⟨w1, w2⟩ := wk.go n _ F' H' g'.ff g'.fh ex
    have kx : Conj ce ((s, loopF ST ((fx s).take n) (f0 s)), (fx s)[n]) := loopC_at (fun m x => Conj ce ((s, m), x)) ST (fx s) (f0 s) n _ k2 ex
    refine ⟨w1, fun H2 => ∃ F2 acc2, Gr (fun a => a = D ∨ a = p0) F1 (upd H1 D (.lst [])) F2 H2 ∧ F2 D = none ∧ H2 D = some (.lst acc2) ∧ Paired (τe.rep F2) acc2 (lcE FE ST ((fx s).take (n + 1)) (f0 s)) ∧ Holds (Δ1.set i (.ow ω fun _ => loopF ST ((fx s).take (n + 1)) (f0 s))) s F2 H2 σ, fun H2 ⟨F2, acc2, y1, y2, y3, y4, y5⟩ => ⟨_, by omega, F2, acc2, rfl, hlt, y1, y2, y3, y4, y5⟩, fun v H2 hy => ?_⟩
    obtain ⟨F2, g2, rv⟩ := w2 v H2 hy
    have hl2 := hl.grow g2
    have hhk : Holds (Ctx.comap (T := (S × ω.τ.α) × τ.α) Prod.fst (killL (ctxM Δ1 i ω) vs)) ((s, loopF ST ((fx s).take n) (f0 s)), (fx s)[n]) F2 H2 (wipe σ vs) := comap_holds (kill_holds (ctxM_holds hl2))
    refine rg ((s, loopF ST ((fx s).take n) (f0 s)), (fx s)[n]) F2 H2 (wipe σ vs) v hhk g2.fh rv _ fun σ3 hh3 ow3 nx3 => ⟨?_, ?_⟩
    · apply List.ext_getElem?
      intro j
      by_cases hj : j ∈ vs
      · have : ∀ {σ : L2.St} {ws : List Nat}, j ∈ ws → (wipe σ ws)[j]? = if j < σ.length then some none else none := by
          intro σ ws
          induction ws with
          | nil => intro h; cases h
          | cons w ws ih =>
            intro h
            unfold wipe
            by_cases hw : w = j
            · subst hw
              rw [List.getElem?_set, if_pos rfl, wipe_length]
            · rw [List.getElem?_set_ne hw]
              exact ih ((List.mem_cons.mp h).resolve_left fun z => hw z.symm)
        rw [this hj, this hj]
        have l3 : σ3.length = (wipe σ vs).length := by rw [hh3.len, hhk.len]; exact lg
        rw [l3, wipe_length]
      · rw [wipe_out hj, wipe_out hj, nx3 j fun z => hj (his j z), wipe_out hj]
    · show te σ3 H2 _
      have ek : (fx s).take (n + 1) = (fx s).take n ++ [(fx s)[n]] := by rw [List.take_add_one, ex]; rfl
      have σ3i : σ3[i]? = some (some (.ref p0)) := by rw [nx3 i (fun z => hvs (his i z)), wipe_out hvs, hσ]
      refine re _ F2 H2 σ3 hh3 g2.fh kx _ fun w F4 H4 g4 hh4 r4 => ?_
      obtain ⟨p1, u1, ep1, np1, hp1, ow1⟩ := hh4.at_ i _ _ eb σ3i
      cases ep1
      have g4' : Gr (fun a => a = p0) F2 H2 F4 H4 := g4.mono fun a ⟨j, hj, e⟩ => by
        rw [hme j hj, σ3i] at e
        cases e; rfl
      have nD2 : F2 D = none := by
        cases z : F2 D with
        | none => rfl
        | some o =>
          rcases g2.fresh D o z with w | w
          · rw [n'] at w; cases w
          · rw [e'] at w; cases w
      have eD2 := g2.same _ _ e'
      have eD4 := g4'.keep _ _ eD2 (fun z => pD z.symm)
      have nD4 : F4 D = none := by
        cases z : F4 D with
        | none => rfl
        | some o =>
          rcases g4'.fresh D o z with w | w
          · rw [nD2] at w; cases w
          · rw [eD2] at w; cases w
      have ll : acc.length < sizeLine := by
        rw [pr.length, lcE_len, List.length_take]
        have := wk.len
        omega
      have hl4 : Holds (Δ1.set i (.ow ω fun _ => loopF ST ((fx s).take (n + 1)) (f0 s))) s F4 H4 σ := by
        have := Holds.growM (f' := fun _ => loopF ST ((fx s).take (n + 1)) (f0 s)) hl2 (hset _) hσ g4' np1 hp1 (by
          rw [ek, loopF_app]
          exact ow1)
        rwa [List.set_set] at this
      have gup : Gr (fun a => a = D) F4 H4 F4 (upd H4 D (.lst (acc ++ [w]))) := ⟨Same.refl F4, fun a o z => by rw [upd_ne (ne_of_none z nD4)]; exact g4.fh a o z, fun a o z => .inl z, fun a o z nz => by rw [upd_ne nz]; exact z, fun a z => by
          by_cases y : a = D
          · subst y; rw [upd_same] at z; cases z
          · rw [upd_ne y] at z; exact z⟩
      refine ⟨acc, eD4, ll, F4, acc ++ [w], ?_, nD4, upd_same, ?_, ?_⟩
      · exact (g'.trans (g2.of0)).trans ((g4'.mono fun a z => .inr z).trans (gup.mono fun a z => .inl z))
      · rw [ek, lcE_app]
        exact paired_app (paired_mono (fun a b r => τe.mono (g2.ff.trans g4.ff) r) pr) (.cons r4 .nil)
      · refine ⟨hl4.len, fun j sl o e1 e2 => ?_, hl4.sep⟩
        have r := hl4.at_ j sl o e1 e2
        cases sl with
        | dead => trivial
        | fz τ f => exact r
        | ow ω2 f =>
          obtain ⟨p2, u2, e3, n2, h2, o2⟩ := r
          refine ⟨p2, u2, e3, n2, ?_, o2⟩
          rw [upd_ne ?_]
          · exact h2
          · intro z
            subst z
            subst e3
            -- D stood in no slot
            rcases get_set1 e1 with ⟨rfl, _, _⟩ | ⟨nj, e1⟩
            · rw [hσ] at e2; cases e2; exact pD rfl
            · obtain ⟨p3, u3, e4, n3, h3, _⟩ := hh1.at_ j _ _ e1 e2
              cases e4
              rw [hD] at h3; cases h3
  · refine .inl ⟨wk.stop n F' H' g'.ff g'.fh (by omega), ?_⟩
    have ed : (fx s).take n = fx s := List.take_of_length_le (by omega)
    rw [ed] at pr hl
    have back : Gr (fun a => a = p0) F1 H1 F' H' := by
      refine ⟨g'.ff, g'.fh, fun a o z => ?_, fun a o z nz => ?_, fun a z => ?_⟩
      · rcases g'.fresh a o z with w | w
        · exact .inl w
        · by_cases y : a = D
          · subst y; exact .inr hD
          · rw [upd_ne y] at w; exact .inr w
      · have aD : a ≠ D := fun y => by subst y; rw [hD] at z; cases z
        exact g'.keep a o (by rw [upd_ne aD]; exact z) fun w => w.elim aD nz
      · have w := g'.dom a z
        by_cases y : a = D
        · subst y; exact hD
        · rw [upd_ne y] at w; exact w
    have back' : Gr (MsAt [i] σ) F1 H1 F' H' := back.mono fun a z => ⟨i, List.mem_singleton.mpr rfl, by rw [hσ, z]⟩
    refine q D (.lst acc) F' H' ((g1.mono (msAt_l (m2 := [i]))).trans (back'.mono (msAt_r (m1 := ms)))) ?_ (g1.dom D hD) n' e' ⟨acc, rfl, pr, by rw [lcE_len]; exact wk.len⟩
    refine AsC.holds (Δ := Δ1.set i (.ow ω fun _ => loopF ST (fx s) (f0 s))) (s := s) ⟨by simp, fun k sl' e => ?_⟩ hl
    rcases get_set1 e with ⟨rfl, rfl, _⟩ | ⟨nk, e⟩
    · exact .inr (.inr ⟨ω, _, _, hset _, rfl, (LoopF_eq _ _ _).symm⟩)
    · rw [List.getElem?_set_ne nk]
      cases sl' with
      | dead => exact .inl rfl
      | fz τ f => exact .inr (.inl ⟨τ, f, f, e, rfl, rfl⟩)
      | ow ω2 f => exact .inr (.inr ⟨ω2, f, f, e, rfl, rfl⟩)
/-- [elt for tg in iter], elt changes the own list of the slot i -/
theorem DO.lcE {scope : Scope} {own : List (Str × Nat)} (i : Nat) {Δb Δb' : Ctx K ((S × ω.τ.α) × τ.α)} {fx : S → List τ.α} {wi : TI} {g : TG} {ce : List ((S × ω.τ.α) × τ.α → Prop)} {fe : (S × ω.τ.α) × τ.α → τe.α} {fm : (S × ω.τ.α) × τ.α → ω.τ.α} {f0 : S → ω.τ.α} (hN : X.N.Nodup) (hi : DI K X Δ tg iter τ ms c1 Δ1 fx wi) (hi0 : Δ1[i]? = some (.ow ω f0)) (ok : BlkOk X.N X.env.scope scope own) (hvs : i ∉ own.map (·.2))
    (hg : ∀ (s : Shared) (H : Hp) (C : Addr) (cl : List (Str × Addr)) (fp : List Addr), DG K (X.blk s H scope (compEnvC scope cl C X.env) fp) (Ctx.comap (T := (S × ω.τ.α) × τ.α) Prod.fst (killL (ctxM Δ1 i ω) (own.map (·.2)))) tg τ Prod.snd is Δb g)
    (he : ∀ (s : Shared) (H : Hp) (C : Addr) (cl : List (Str × Addr)) (fp : List Addr), DX K (X.blk s H scope (compEnvC scope cl C X.env) fp) Δb elt τe me ce Δb' fe te) (eb : Δb'[i]? = some (.ow ω fm)) (hme : ∀ k ∈ me, k = i) (his : ∀ j ∈ is, j ∈ own.map (·.2)) (hc : X.calm = true := by rfl) (hs : ∀ x, foldedSetIterable iter X.env x = pure x := by intro _; rfl) :
    DO K X Δ (.ListComp elt [⟨tg, iter, [], 0⟩] scope pos) (oList τe) (ms ++ [i]) (c1 ++ [fun s => loopC (fun m x => Conj ce ((s, m), x)) (fun m x => fm ((s, m), x)) (fx s) (f0 s)]) (Δ1.set i (.ow ω fun s => LoopF (fun m x => fm ((s, m), x)) (fx s) (f0 s))) (fun s => LcE (fun m x => fe ((s, m), x)) (fun m x => fm ((s, m), x)) (fx s) (f0 s)) (tLc wi g tYes te (own.map (·.2))) :=
  ⟨hi.1.trans (diff_mut hi0), pe_lc hc hN hi.2.1 ok (fun s H C cl fp => (hg s H C cl fp).2.1) (fun s H C cl fp => pts_nil) (fun s H C cl fp => (he s H C cl fp).2.1) hs, by
    have s0 : Shared := {}
    exact lcE_sem (is := is) hi.1 hi0 hvs hi.2.2 (hg s0 (fun _ => none) 0 [] []).1 (hg s0 (fun _ => none) 0 [] []).2.2 (he s0 (fun _ => none) 0 [] []).2.2 eb hme his⟩
/-! #### a, b, .. = a list -/
/-- a list of known length and kinds -/
abbrev tLN (ts : List (Ty K)) : Ty K := ⟨HL ts, fun F v x => ∃ a vs, v = .ref a ∧ F a = some (.lst vs) ∧ RepAll F ts vs x, fun h ⟨a, vs, e, q, r⟩ => ⟨a, vs, e, h _ _ q, r.mono h⟩⟩
theorem DG.lst {ts : List (Ty K)} {es : List Expr} {k : Nat} {h : S → HL ts} {gs : TGs} {is : List Nat} (hb : DGs K X Δ es ts h is Δ1 gs) (hc : X.calm = true := by rfl) (hn : (assignEach es X.env).length = ts.length := by rfl) (hst : (assignEach es X.env).findIdx? (·.1) = none := by rfl) (hK : X.K = K := by rfl) : DG K X Δ (.Tuple es k pos) (tLN ts) h is Δ1 (gLst K ts.length gs) := by
  subst hK
  exact ⟨hb.1, pg_lst hc hb.2.1 hn hst, fun s F H σ v hh sm ⟨a, vs, ev, q1, r⟩ Q q => ⟨a, vs, ev, .inl (.inl (sm _ _ q1)), r.length, hb.2.2 s F H σ vs hh sm r Q q⟩⟩
/-! #### list(range(..)) -/
end
end Dx

/-! Dx, part S: is not of bools; one of several new lists. -/
namespace Dx
open PySem PySem.Spec PyProof PyProof.Rows L2
section
variable {K : PySem.W.Frag} {X : Cx} {S R : Type} {Δ Δ1 Δ2 : Ctx K S} {e a b : Expr} {es : List Expr} {pos p' px : Pos} {τ : Ty K} {ω : OTy K} {ms m1 m2 : List Nat} {c1 c2 cs : List (S → Prop)} {ta tb : TE} {tl : TA} {i : Nat}
/-! #### one of several new lists -/
/-- items that are new objects of one's own, all of one type -/
def DLo (K : PySem.W.Frag) (X : Cx) (Δ : Ctx K S) (es : List Expr) (ω : OTy K) (ms : List Nat) (cs : List (S → Prop)) (Δ1 : Ctx K S) (f : S → List ω.τ.α) (t : TA) : Prop :=
  Diff ms Δ Δ1 ∧ PA X es t ∧ ∀ s F H σ, Holds Δ s F H σ → Same F H → Conj cs s → ∀ Q : List V → Hp → Prop, (∀ vs F' H', Gr (MsAt ms σ) F H F' H' → Holds Δ1 s F' H' σ → Paired (fun v x => ∃ p u, v = .ref p ∧ H p = none ∧ F' p = none ∧ H' p = some u ∧ ω.own F' u x) vs (f s) → Q vs H') → t σ H Q
theorem DLo.nil : DLo K X Δ [] ω [] [] Δ (fun _ => []) tNil := ⟨Diff.refl, pa_nil, fun s F H σ hh sm _ Q q => q [] F H (Gr.refl sm) hh .nil⟩
theorem DLo.cons {f : S → ω.τ.α} {g : S → List ω.τ.α} (ha : DO K X Δ e ω m1 c1 Δ1 f ta) (hm1 : OwnAll Δ m1) (hb : DLo K X Δ1 es ω m2 c2 Δ2 g tl) (hm2 : OwnAll Δ1 m2) (hs : starEach (e :: es) X.env = (false, eval e X.env) :: starEach es X.env := by rfl) : DLo K X Δ (e :: es) ω (m1 ++ m2) (c1 ++ c2) Δ2 (fun s => f s :: g s) (tCons ta tl) := by
  obtain ⟨d1, pa, ra⟩ := ha
  obtain ⟨d2, pb, rb⟩ := hb
  refine ⟨d1.trans d2, pa_cons pa pb hs, fun s F H σ hh sm hc Q q => ?_⟩
  obtain ⟨h1, h2⟩ := conj_app hc
  refine ra s F H σ hh sm h1 _ fun p u F1 H1 g1 hh1 n1 n2 e1 o1 => ?_
  refine rb s F1 H1 σ hh1 g1.fh h2 _ fun vs F2 H2 g2 hh2 r2 => ?_
  have np : ¬ MsAt m2 σ p := fun ⟨j, hj, ej⟩ => by
    obtain ⟨ω', f', e4⟩ := hm2.all j hj
    exact (d1.was hh e4 ej).2 n1
  have e2 : H2 p = some u := g2.keep _ _ e1 np
  have nf : F2 p = none := by
    cases x : F2 p with
    | none => rfl
    | some o =>
      rcases g2.fresh p o x with z | z
      · rw [n2] at z; cases z
      · rw [e1] at z; cases z
  exact q _ F2 H2 ((g1.mono (msAt_l (m2 := m2))).trans (g2.mono (msAt_r (m1 := m1)))) hh2 (.cons ⟨p, u, rfl, n1, nf, e2, ω.mono g2.ff o1⟩ (paired_mono (fun a b ⟨p, u, k1, k2, k3, k4, k5⟩ => ⟨p, u, k1, g1.dom p k2, k3, k4, k5⟩) r2))
end
end Dx

/-! Dx, part T: x = [..], the statement of its own. -/
namespace Dx
open PySem PySem.Spec PyProof PyProof.Rows L2
section
variable {K : PySem.W.Frag} {X : Cx} {S R : Type} {Δ Δ1 Δ2 : Ctx K S} {st : Stmt} {e a b c tg iter elt : Expr} {es ifs : List Expr} {pos p' px apos : Pos} {τ τe τ1 τ2 L : Ty K} {ω ω1 ω2 : OTy K} {mus ms m1 m2 me is vs : List Nat} {c1 c2 c3 cs : List (S → Prop)} {ta tb te : TE} {tt tx : TT} {tl : TA} {i j : Nat} {x y : Str}
/-- the value of a store of its own (the compiler joins the two) -/
def Sole (X : Cx) (e : Expr) (ta : TE) : Prop := ∀ (i : Nat) (y : Str) (py spos : Pos), X.N.Nodup → X.N[i]? = some y → X.env.scope.names.lookup y = some .local → swapsWith e (some (.Name y py)) spos.line X.env = pure true → PS X (.Assign [.Name y py] e spos) (tAsg ta (gName i))
def DOS (K : PySem.W.Frag) (X : Cx) (Δ : Ctx K S) (e : Expr) (ω : OTy K) (ms : List Nat) (cs : List (S → Prop)) (Δ1 : Ctx K S) (f : S → ω.τ.α) (t : TE) : Prop := DO K X Δ e ω ms cs Δ1 f t ∧ Sole X e t
theorem DOS.lc {scope : Scope} {own : List (Str × Nat)} {Δb : Ctx K (S × τ.α)} {fx : S → List τ.α} {wi : TI} {g : TG} {ct ce : List (S × τ.α → Prop)} {ft : S × τ.α → Bool} {fe : S × τ.α → τe.α} (hN : X.N.Nodup) (hi : DI K X Δ tg iter τ ms c1 Δ1 fx wi) (ok : BlkOk X.N X.env.scope scope own)
    (hg : ∀ (s : Shared) (H : Hp) (C : Addr) (cl : List (Str × Addr)) (fp : List Addr), DG K (X.blk s H scope (compEnvC scope cl C X.env) fp) (Ctx.comap (T := S × τ.α) Prod.fst (killL Δ1 (own.map (·.2)))) tg τ Prod.snd is Δb g)
    (ht : ∀ (s : Shared) (H : Hp) (C : Addr) (cl : List (Str × Addr)) (fp : List Addr), DTs' K (X.blk s H scope (compEnvC scope cl C X.env) fp) Δb ifs ct ft tt)
    (he : ∀ (s : Shared) (H : Hp) (C : Addr) (cl : List (Str × Addr)) (fp : List Addr), DX K (X.blk s H scope (compEnvC scope cl C X.env) fp) Δb elt τe [] ce Δb fe te) (his : ∀ j ∈ is, j ∈ own.map (·.2)) (hc : X.calm = true := by rfl) (hs : ∀ x, foldedSetIterable iter X.env x = pure x := by intro _; rfl) :
    DOS K X Δ (.ListComp elt [⟨tg, iter, ifs, 0⟩] scope pos) (oList τe) ms (c1 ++ [fun s => ∀ x ∈ fx s, Conj ct (s, x) ∧ (ft (s, x) = true → Conj ce (s, x))]) Δ1 (fun s => lcV (fx s) (fun x => ft (s, x)) (fun x => fe (s, x))) (tLc wi g tt te (own.map (·.2))) :=
  ⟨DO.lc hN hi ok hg ht he his hc hs, fun i y py spos hN hy hyl hsw => ps_setLc hc hN hy hyl hsw hi.2.1 ok (fun s H C cl fp => (hg s H C cl fp).2.1) (fun s H C cl fp => (ht s H C cl fp).1) (fun s H C cl fp => (he s H C cl fp).2.1) hs⟩
theorem DOS.lcE {scope : Scope} {own : List (Str × Nat)} (i : Nat) {Δb Δb' : Ctx K ((S × ω.τ.α) × τ.α)} {fx : S → List τ.α} {wi : TI} {g : TG} {ce : List ((S × ω.τ.α) × τ.α → Prop)} {fe : (S × ω.τ.α) × τ.α → τe.α} {fm : (S × ω.τ.α) × τ.α → ω.τ.α} {f0 : S → ω.τ.α} (hN : X.N.Nodup) (hi : DI K X Δ tg iter τ ms c1 Δ1 fx wi) (hi0 : Δ1[i]? = some (.ow ω f0)) (ok : BlkOk X.N X.env.scope scope own) (hvs : i ∉ own.map (·.2))
    (hg : ∀ (s : Shared) (H : Hp) (C : Addr) (cl : List (Str × Addr)) (fp : List Addr), DG K (X.blk s H scope (compEnvC scope cl C X.env) fp) (Ctx.comap (T := (S × ω.τ.α) × τ.α) Prod.fst (killL (ctxM Δ1 i ω) (own.map (·.2)))) tg τ Prod.snd is Δb g)
    (he : ∀ (s : Shared) (H : Hp) (C : Addr) (cl : List (Str × Addr)) (fp : List Addr), DX K (X.blk s H scope (compEnvC scope cl C X.env) fp) Δb elt τe me ce Δb' fe te) (eb : Δb'[i]? = some (.ow ω fm)) (hme : ∀ k ∈ me, k = i) (his : ∀ j ∈ is, j ∈ own.map (·.2)) (hc : X.calm = true := by rfl) (hs : ∀ x, foldedSetIterable iter X.env x = pure x := by intro _; rfl) :
    DOS K X Δ (.ListComp elt [⟨tg, iter, [], 0⟩] scope pos) (oList τe) (ms ++ [i]) (c1 ++ [fun s => loopC (fun m x => Conj ce ((s, m), x)) (fun m x => fm ((s, m), x)) (fx s) (f0 s)]) (Δ1.set i (.ow ω fun s => LoopF (fun m x => fm ((s, m), x)) (fx s) (f0 s))) (fun s => LcE (fun m x => fe ((s, m), x)) (fun m x => fm ((s, m), x)) (fx s) (f0 s)) (tLc wi g tYes te (own.map (·.2))) :=
  ⟨DO.lcE i hN hi hi0 ok hvs hg he eb hme his hc hs, fun i y py spos hN hy hyl hsw => ps_setLc hc hN hy hyl hsw hi.2.1 ok (fun s H C cl fp => (hg s H C cl fp).2.1) (fun s H C cl fp => pts_nil) (fun s H C cl fp => (he s H C cl fp).2.1) hs⟩
theorem DOS.borrowE (i : Nat) {f : S → ω.τ.α} {g : S → ω1.τ.α} (h : Δ[i]? = some (.ow ω f)) (he : DOS K X (Δ.set i (.fz ω.τ f)) e ω1 ms c1 Δ1 g ta) (lf : LFo ω1) (him : i ∉ ms) (hm : OwnAll Δ ms) (lm : LfAll Δ1 ms) : DOS K X Δ e ω1 ms c1 (Δ1.set i (.ow ω f)) g ta :=
  ⟨DO.borrowE i h he.1 lf him hm lm, he.2⟩
/-- .. as data that stays -/
theorem DS.setSF {h : S → List τ.α} {py spos : Pos} (he : DOS K X Δ e (oList τ) ms c1 Δ1 h ta) (hm : OwnAll Δ ms) (hN : X.N.Nodup) (hy : X.N[i]? = some y) (hyl : X.env.scope.names.lookup y = some .local) (hu : i ∉ mus) (hsw : swapsWith e (some (.Name y py)) spos.line X.env = pure true := by rfl) :
    DS K X mus Δ (.Assign [.Name y py] e spos) c1 (Δ1.set i (.fz (tList τ) h)) := by
  obtain ⟨d1, p, r⟩ := DX.ofL he.1
  have hg : DG K X Δ1 (.Name y py) (tList τ) h [i] (Δ1.set i (.fz (tList τ) h)) (gName i) := DG.name hN hy (.inl hyl) (.inr hyl)
  refine ⟨_, he.2 i y py spos hN hy hyl hsw, fun s F H σ hh sm hc D q => r s F H σ hh sm hc _ fun v F1 H1 g1 hh1 r1 => hg.2.2 s F1 H1 σ v hh1 g1.fh r1 _ fun σ1 k1 k2 k3 => q σ1 F1 H1 ?_ k1⟩
  have gs : GrS mus Δ σ Δ1 σ F H F1 H1 := GrS.ofGr d1 hh hm.all g1
  exact { gs.toGrR with own := fun a z => gs.own a (k2 a z), mu := fun k m => k3 k fun z => hu (List.mem_singleton.mp z ▸ m) }
end
end Dx

/-! Dx, part U: list(range(a, b)) at any bounds. -/
namespace Dx
open PySem PySem.Spec PyProof PyProof.Rows L2
section
variable {prog : Program} {w : World} {A : Around} {E : Value → Shared → Prop} {s : Shared}
end
section
variable {prog : Program} {w : World} {A : Around} {E : Value → Shared → Prop} {s : Shared}
end
section
variable {K : PySem.W.Frag} {X : Cx} {S : Type} {Δ Δ1 Δ2 : Ctx K S} {e a b : Expr} {pos px : Pos} {m1 m2 : List Nat} {c1 c2 : List (S → Prop)} {ta tb : TE}
end
end Dx

/-! Dx, part V: texts. -/
namespace Dx
open PySem PySem.Spec PyProof PyProof.Rows L2
/-! #### texts without strange signs -/
theorem ok_iff {x : Str} : PyData.strOk x = true ↔ ∀ c ∈ TL.tl x, c < 0x110000 := by
  unfold PyData.strOk
  rw [Array.all_eq_true']
  simp [TL.tl]
theorem ok_str (s : String) : PyData.strOk (Str.ofString s) = true := by
  rw [ok_iff, TL.tl_ofString]
  intro c hc
  obtain ⟨d, _, e⟩ := List.mem_map.mp hc
  subst e
  have := d.valid
  have h : d.toNat < 0x110000 := by
    rcases this with h | ⟨_, h⟩
    · exact Nat.lt_trans h (by decide)
    · exact h
  exact h
theorem ok_mk {l : List Nat} (h : ∀ c ∈ l, c < 0x110000) : PyData.strOk ⟨l.toArray⟩ = true := ok_iff.mpr h
def cutT (z : Str) (lo hi : Option Int) : Str := L2.cutS z lo hi
theorem ok_cut {z : Str} (lo hi : Option Int) (h : PyData.strOk z = true) : PyData.strOk (cutT z lo hi) = true := by
  refine ok_mk fun c hc => ok_iff.mp h c ?_
  exact List.mem_of_mem_drop (List.mem_of_mem_take hc)
/-- the signs of a text, each a text -/
def charsS (x : Str) : List Str := x.cps.toList.map fun c => ⟨#[c]⟩
/-- x[i] -/
def chS (x : Str) (i : Int) : Str := ixI Str.empty (charsS x) i
def intOf (x : Str) : Int := (PySem.intText? x).getD 0
def leS (x y : Str) : Bool := !decide (y.cps.toList < x.cps.toList)
theorem charsS_len (x : Str) : (charsS x).length = x.length := by simp [charsS, Str.length]
theorem ok_char {x : Str} (h : PyData.strOk x = true) : ∀ c ∈ charsS x, PyData.strOk c = true := fun c hc => by
  obtain ⟨d, hd, e⟩ := List.mem_map.mp hc
  subst e
  exact ok_mk (l := [d]) fun e he => by rw [List.mem_singleton.mp he]; exact ok_iff.mp h d hd
section
variable {K : PySem.W.Frag} {X : Cx} {S R : Type} {Δ Δ1 Δ2 Δ3 : Ctx K S} {e a b tg : Expr} {es : List Expr} {pos p' p2 px apos : Pos} {ms m1 m2 m3 : List Nat} {c1 c2 c3 cs : List (S → Prop)} {ta tb : TE} {tl : TA} {lo hi : Option Expr} {tlo thi : TO} {L : Ty K}
/-- x <= y, x < y -/
theorem DX.leS {f g : S → Str} (ha : DX K X Δ a (tStr K) m1 c1 Δ1 f ta) (hb : DX K X Δ1 b (tStr K) m2 c2 Δ2 g tb) : DX K X Δ (.Compare a [.LtE] [b] pos) (tBool K) (m1 ++ m2) (c1 ++ (c2 ++ [])) Δ2 (fun s => Dx.leS (f s) (g s)) (tOp (fun x y H Q => ∃ i j, x = .str i ∧ y = .str j ∧ Q (.bl (!decide (j.cps.toList < i.cps.toList))) H) ta tb) :=
  DX.bin (τ := tBool K) (cc := []) (g := fun (x y : Str) => Dx.leS x y) (fun x y v u F H sm r1 r2 _ Q q => ⟨x, y, r1.1, r2.1, q _ F H (Gr.refl sm) rfl⟩) ha hb fun p q => pe_cmpR op_le_str p q (nomark _)
/-- x[lo:hi] -/
theorem DX.slS {f : S → Str} {flo fhi : S → Option Int} (ha : DX K X Δ a (tStr K) m1 c1 Δ1 f ta) (h1 : DPo K X Δ1 lo m2 c2 Δ2 flo tlo) (h2 : DPo K X Δ2 hi m3 c3 Δ3 fhi thi) : DX K X Δ (.Subscript a (.Slice lo hi none p2) pos) (tStr K) (m1 ++ (m2 ++ m3)) (c1 ++ (c2 ++ (c3 ++ [fun s => (f s).length ≤ sizeLine]))) Δ3 (fun s => cutT (f s) (flo s) (fhi s)) (tSl rSlS ta tlo thi) := by
  obtain ⟨d1, p1, r1⟩ := ha
  obtain ⟨d2, q2, r2⟩ := h1
  obtain ⟨d3, q3, r3⟩ := h2
  refine ⟨d1.trans (d2.trans d3), pe_slice sl_str p1 q2 q3, fun s F H σ hh sm hc Q q => ?_⟩
  obtain ⟨k1, k2⟩ := conj_app hc
  obtain ⟨k2, k3⟩ := conj_app k2
  obtain ⟨k3, k4, _⟩ := conj_app k3
  refine r1 s F H σ hh sm k1 _ fun v F1 H1 g1 hh1 w1 => r2 s F1 H1 σ hh1 g1.fh k2 _ fun F2 H2 g2 hh2 => r3 s F2 H2 σ hh2 g2.fh k3 _ fun F3 H3 g3 hh3 => ⟨f s, w1.1, k4, ?_⟩
  have g12 : Gr (MsAt (m1 ++ (m2 ++ m3)) σ) F H F3 H3 := (g1.mono (msAt_l (m2 := m2 ++ m3))).trans ((g2.mono (fun a h => msAt_r (m1 := m1) a (msAt_l (m2 := m3) a h))).trans (g3.mono fun a h => msAt_r (m1 := m1) a (msAt_r (m1 := m2) a h)))
  exact q _ F3 H3 g12 hh3 ⟨rfl, ok_cut _ _ w1.2⟩
/-- for c in text -/
theorem walks_str {F0 : Hp} {x : Str} (h : PyData.strOk x = true) (z : x.length ≤ sizeLine) : Walks K (Its x) F0 (tStr K) (charsS x) where
  go := fun i c F H s1 s2 e => by
    unfold charsS at e
    rw [List.getElem?_map] at e
    obtain ⟨d, h1, h2⟩ := Option.map_eq_some_iff.mp e
    have hi : i < x.cps.size := by have := (List.getElem?_eq_some_iff.mp h1).1; simpa using this
    refine ⟨hi, fun v H' ⟨eH, d', h3, ev⟩ => ?_⟩
    have : d' = d := by
      rw [← Array.getElem?_toList, h1] at h3
      cases h3; rfl
    subst this eH
    exact ⟨F, Gr.refl s2, by rw [ev, ← h2], ok_char h _ (List.mem_map.mpr ⟨_, List.mem_of_getElem? h1, h2⟩)⟩
  stop := fun i F H s1 s2 e => by
    have : (charsS x).length ≤ i := e
    rw [charsS_len] at this
    exact this
  len := by rw [charsS_len]; exact z
theorem DI.str {f : S → Str} (he : DX K X Δ e (tStr K) ms c1 Δ1 f ta) : DI K X Δ tg e (tStr K) ms (c1 ++ [fun s => (f s).length ≤ sizeLine]) Δ1 (fun s => charsS (f s)) (iStr ta) := by
  obtain ⟨d1, p, r⟩ := he
  refine ⟨d1, pi_str p, fun s F H σ hh sm hc R q => ?_⟩
  obtain ⟨k1, k2, _⟩ := conj_app hc
  exact r s F H σ hh sm k1 _ fun v F1 H1 g1 hh1 r1 => ⟨f s, r1.1, q _ F1 H1 g1 hh1 (walks_str r1.2 k2)⟩
/-! #### chains of texts -/
end
end Dx

/-! Dx, part W: a text among two. -/
namespace Dx
open PySem PySem.Spec PyProof PyProof.Rows L2
section
variable {K : PySem.W.Frag} {X : Cx} {S R : Type} {Δ Δ1 Δ2 : Ctx K S} {e a b : Expr} {pos p' px apos : Pos} {m1 m2 : List Nat} {c1 c2 cs : List (S → Prop)} {ta tb : TE} {f : S → Str} {g : S → Str × Str}
end
end Dx

/-! Dx, part X: sorted(set(ints)), few or many. -/
namespace L2
open PySem PySem.Spec PyProof PyProof.Rows
section
variable {P : Program} {w : World} {A : Around} {E : Value → Shared → Prop} {s : Shared}
abbrev bare (w : World) : Obj := { cls := .type "set", dict := none, data := .set #[] 0 (.fresh 0 0 (!w.params.followText "set-order")) }
set_option maxHeartbeats 3200000 in
end
section
variable {X : Cx}
end
end L2
namespace Dx
open PySem PySem.Spec PyProof PyProof.Rows L2
section
variable {K : PySem.W.Frag} {X : Cx} {S : Type} {Δ Δ1 Δ2 : Ctx K S} {e : Expr} {pos px pos2 px2 : Pos} {τ L : Ty K} {ms : List Nat} {c1 : List (S → Prop)} {ta : TE}
end
end Dx

/-! Dx, part Y: what may be None, and what is not. -/
namespace Dx
open PySem PySem.Spec PyProof PyProof.Rows L2
section
variable {K : PySem.W.Frag} {X : Cx} {S : Type} {Δ Δ1 : Ctx K S} {e : Expr} {τ : Ty K} {ms : List Nat} {cs : List (S → Prop)} {ta : TE}
theorem nv_int {F : Hp} {v : V} {x : Int} (r : (tInt K).rep F v x) : v ≠ .non := fun z => by rw [z] at r; cases r
theorem DX.someO {f : S → τ.α} (hn : ∀ {F v x}, τ.rep F v x → v ≠ .non) (he : DX K X Δ e τ ms cs Δ1 f ta) : DX K X Δ e (tOpt τ) ms cs Δ1 (fun s => some (f s)) ta :=
  ⟨he.1, he.2.1, fun s F H σ hh sm hc Q q => he.2.2 s F H σ hh sm hc Q fun v F1 H1 g hh1 r => q v F1 H1 g hh1 ⟨hn r, r⟩⟩
theorem DX.getO (d : τ.α) {f : S → Option τ.α} (he : DX K X Δ e (tOpt τ) ms cs Δ1 f ta) : DX K X Δ e τ ms (cs ++ [fun s => (f s).isSome = true]) Δ1 (fun s => (f s).getD d) ta :=
  ⟨he.1, he.2.1, fun s F H σ hh sm hc Q q => by
    obtain ⟨k1, k2, _⟩ := conj_app hc
    refine he.2.2 s F H σ hh sm k1 Q fun v F1 H1 g hh1 r => q v F1 H1 g hh1 ?_
    obtain ⟨x, ex⟩ := Option.isSome_iff_exists.mp k2
    rw [ex] at r
    show τ.rep F1 v ((f s).getD d)
    rw [ex]
    exact r.2⟩
end
end Dx
namespace Dx
open PySem PySem.Spec PyProof PyProof.Rows L2
section
variable {K : PySem.W.Frag} {X : Cx} {S : Type} {Δ Δ1 : Ctx K S} {e tg : Expr} {τ : Ty K} {ms : List Nat} {cs : List (S → Prop)} {ta : TE}
theorem walks_tup {F0 : Hp} {a : Addr} {vs : List V} {xs : List τ.α} (h : SqT K F0 a vs) (p : Paired (τ.rep F0) vs xs) (z : xs.length ≤ sizeLine) : Walks K (Itt K a) F0 τ xs where
  go := fun i x F H s1 s2 e => by
    obtain ⟨v, ev, rv⟩ := paired_at p e
    refine ⟨⟨vs, v, sqT_mono s2 (sqT_mono s1 h), ev⟩, fun v' H' ⟨e1, e2⟩ => ?_⟩
    subst e1
    have e3 := e2 vs (sqT_mono s2 (sqT_mono s1 h))
    rw [ev] at e3; cases e3
    exact ⟨F, Gr.refl s2, τ.mono s1 rv⟩
  stop := fun i F H s1 s2 e => ⟨vs, sqT_mono s2 (sqT_mono s1 h), by rw [p.length]; exact e⟩
  len := z
end
end Dx
namespace Dx
open PySem PySem.Spec PyProof PyProof.Rows L2
section
variable {K : PySem.W.Frag} {X : Cx} {S : Type} {Δ Δ1 : Ctx K S} {b : Expr} {pos px : Pos} {τ : Ty K} {c2 : List (S → Prop)} {tb : TE} {i : Nat} {x : Str}
end
end Dx

/-! Dx, part Z: dicts of ints, as rows of keys. -/
namespace L2
open PySem PySem.Spec PyProof PyProof.Rows
/-- what e gives is locked from here on -/
def tPerm (t : TE) : TE := fun σ H Q => t σ H fun v H1 => ∃ d u, v = .ref d ∧ H1 d = some u ∧ Mut (some u) ∧ ∀ od, Q v (upd H1 d (.frz od u))
theorem pe_perm {X : Cx} {e : Expr} {t : TE} (h : PE X e t) : PE X e (tPerm t) := by
  refine ⟨fun pins s σ H Q I q => ?_⟩
  refine thn (h.run pins s σ H _ I q) fun u s1 ⟨x, H1, I1, rx, d, w, ex, hd, mu, q1⟩ => ?_
  obtain ⟨od, I2⟩ := I1.lock hd mu
  exact ⟨x, _, I2, rx, q1 od⟩
end L2
namespace Dx
open PySem PySem.Spec PyProof PyProof.Rows L2
def KeysOf (kvs : List (Key × V)) (ks : List Int) : Prop := kvs.map (·.1) = ks.map Sum.inl
def insK (ks : List Int) (k : Int) : List Int := if k ∈ ks then ks else ks ++ [k]
theorem keys_any {kvs : List (Key × V)} {ks : List Int} (h : KeysOf kvs ks) (k : Int) : (kvs.any fun kv => decide (kv.1 = (.inl k : Key))) = decide (k ∈ ks) := by
  have e : (kvs.any fun kv => decide (kv.1 = (.inl k : Key))) = (kvs.map (·.1)).any fun q => decide (q = (.inl k : Key)) := by rw [List.any_map]; rfl
  rw [e, h, List.any_map]
  rw [Bool.eq_iff_iff]
  simp
theorem keys_put {kvs : List (Key × V)} {ks : List Int} {v : V} (h : KeysOf kvs ks) (k : Int) : KeysOf (putK kvs (.inl k) v) (insK ks k) := by
  unfold putK insK
  rw [keys_any h]
  by_cases m : k ∈ ks
  · rw [if_pos (decide_eq_true m), if_pos m]
    unfold KeysOf
    rw [List.map_map, ← h]
    apply List.map_congr_left
    intro q _
    show (if q.1 = .inl k then (q.1, v) else q).1 = q.1
    split <;> rfl
  · rw [if_neg (by rw [decide_eq_false m]; exact Bool.false_ne_true), if_neg m]
    unfold KeysOf
    rw [List.map_append, List.map_append, h]
    rfl
section
variable {K : PySem.W.Frag}
abbrev tDicU (K : PySem.W.Frag) : Ty K := ⟨List Int, fun F v ks => ∃ a kvs, v = .ref a ∧ F a = some (.dK kvs) ∧ KeysOf kvs ks, fun h ⟨a, kvs, e1, e2, e3⟩ => ⟨a, kvs, e1, h _ _ e2, e3⟩⟩
/-- a dict that stays as it is -/
abbrev tDic (K : PySem.W.Frag) : Ty K := ⟨List Int, fun F v ks => ∃ a o kvs, v = .ref a ∧ F a = some (.frz o (.dK kvs)) ∧ KeysOf kvs ks ∧ ks.length ≤ sizeLine, fun h ⟨a, o, kvs, e1, e2, e3⟩ => ⟨a, o, kvs, e1, h _ _ e2, e3⟩⟩
/-- a dict of one's own -/
abbrev oDic (K : PySem.W.Frag) : OTy K where
  τ := tDicU K
  own := fun _ u ks => ∃ kvs, u = .dK kvs ∧ KeysOf kvs ks ∧ ks.length ≤ sizeLine
  mono := fun _ h => h
  frz := fun ⟨kvs, e, h, _⟩ hf => ⟨_, kvs, rfl, e ▸ hf, h⟩
  obj := fun ⟨kvs, e, _⟩ xs z => by rw [e] at z; cases z
theorem keys_len {kvs : List (Key × V)} {ks : List Int} (h : KeysOf kvs ks) : kvs.length = ks.length := by
  have := congrArg List.length h
  simpa using this
theorem walks_keys {F0 : Hp} {d : Addr} {o : Obj} {kvs : List (Key × V)} {ks : List Int} (h : F0 d = some (.frz o (.dK kvs))) (hk : KeysOf kvs ks) (z : ks.length ≤ sizeLine) : Walks K (Itk d o kvs) F0 (tInt K) ks where
  go := fun i x F H s1 s2 e => by
    obtain ⟨hi, ex⟩ := List.getElem?_eq_some_iff.mp e
    have hd := s2 _ _ (s1 _ _ h)
    refine ⟨⟨hd, by rw [keys_len hk]; exact hi⟩, fun v H' ⟨eH, k, w, h3, ev⟩ => ?_⟩
    subst eH
    have h4 : (kvs.map (·.1))[i]? = some k := by rw [List.getElem?_map, h3]; rfl
    rw [hk, List.getElem?_map, e] at h4
    have h5 : (.inl x : Key) = k := Option.some.inj h4
    exact ⟨F, Gr.refl s2, by rw [ev, ← h5]; rfl⟩
  stop := fun i F H s1 s2 e => ⟨s2 _ _ (s1 _ _ h), by rw [keys_len hk]; exact e⟩
  len := z
end
section
variable {K : PySem.W.Frag} {X : Cx} {S : Type} {Δ Δ1 Δ2 : Ctx K S} {e a b tg : Expr} {pos px p2 : Pos} {τ : Ty K} {ms m1 m2 mus : List Nat} {cs c1 c2 : List (S → Prop)} {ta tb : TE} {i : Nat} {x : Str} {k : Nat}
/-- a new dict, from here on as it is -/
theorem DX.ofD {f : S → List Int} (h : DO K X Δ e (oDic K) ms cs Δ1 f ta) : DX K X Δ e (tDic K) ms cs Δ1 f (tPerm ta) := by
  obtain ⟨d1, p, r⟩ := h
  refine ⟨d1, pe_perm p, fun s F H σ hh sm hc Q q => r s F H σ hh sm hc _ fun p u F1 H1 g1 hh1 n1 n2 e1 ⟨kvs, eu, hk, hz⟩ => ?_⟩
  subst eu
  refine ⟨p, _, rfl, e1, trivial, fun od => ?_⟩
  have sm2 : Same F1 (upd F1 p (.frz od (.dK kvs))) := same_new n2
  have notOwn : ∀ (j : Nat) (ω : OTy K) (f' : S → ω.τ.α), Δ1[j]? = some (.ow ω f') → σ[j]? ≠ some (some (.ref p)) := fun j ω f' e2 e3 => (d1.was hh e2 e3).2 n1
  have g2 : Gr (MsAt ms σ) F H (upd F1 p (.frz od (.dK kvs))) (upd H1 p (.frz od (.dK kvs))) := by
    refine ⟨g1.ff.trans sm2, upd_mono g1.fh, fun c o z => ?_, fun c o z w => ?_, fun c z => ?_⟩
    · by_cases y : c = p
      · exact .inr (y ▸ n1)
      · rw [upd_ne y] at z
        exact g1.fresh c o z
    · have : c ≠ p := fun y => by rw [y, n1] at z; cases z
      rw [upd_ne this]
      exact g1.keep c o z w
    · by_cases y : c = p
      · exact y ▸ n1
      · rw [upd_ne y] at z
        exact g1.dom c z
  refine q (.ref p) _ _ g2 ?_ ⟨p, od, kvs, rfl, upd_same, hk, hz⟩
  refine ⟨hh1.len, fun j sl o e2 e3 => ?_, hh1.sep⟩
  have w := hh1.at_ j sl o e2 e3
  cases sl with
  | dead => trivial
  | fz τ f =>
    obtain ⟨v, ev, rv⟩ := w
    exact ⟨v, ev, τ.mono sm2 rv⟩
  | ow ω f' =>
    obtain ⟨p', u', ep, np, hp, ow⟩ := w
    have : p' ≠ p := fun y => notOwn j ω f' e2 (by rw [e3, ep, y])
    exact ⟨p', u', ep, by rw [upd_ne this]; exact np, by rw [upd_ne this]; exact hp, ω.mono sm2 ow⟩
theorem dget_rd {H : Hp} {d : Addr} {o : Obj} {kvs : List (Key × V)} {ks : List Int} (hd : H d = some (.frz o (.dK kvs))) (hk : KeysOf kvs ks) (n : Int) : ∃ r, DGet H d (.int n) r ∧ r.isSome = decide (n ∈ ks) :=
  ⟨valV kvs (.inl n), .inl ⟨kvs, .inl n, .inr ⟨o, hd⟩, rfl, rfl⟩, by rw [← valV_any, keys_any hk]⟩
theorem DX.ninD {f : S → Int} {g : S → List Int} (hr : Room k X.A) (ha : DX K X Δ a (tInt K) m1 c1 Δ1 f ta) (hb : DX K X Δ1 b (tDic K) m2 c2 Δ2 g tb) (hm : behindInMarks .NotIn b = false := by with_unfolding_all rfl) : DX K X Δ (.Compare a [.NotIn] [b] pos) (tBool K) (m1 ++ m2) (c1 ++ (c2 ++ [])) Δ2 (fun s => !decide (f s ∈ g s)) (tDNotIn ta tb) := by
  obtain ⟨d1, p1, r1⟩ := ha
  obtain ⟨d2, p2, r2⟩ := hb
  refine ⟨d1.trans d2, pe_cmp (pc_dnotin (by have := hr.un; omega) p1 p2) hm, fun s F H σ hh sm hc Q q => ?_⟩
  obtain ⟨k1, k2⟩ := conj_app hc
  obtain ⟨k2, _⟩ := conj_app k2
  refine r1 s F H σ hh sm k1 _ fun v F1 H1 g1 hh1 e1 => r2 s F1 H1 σ hh1 g1.fh k2 _ fun w F2 H2 g2 hh2 ⟨d, o, kvs, ew, hd, hk, _⟩ => ?_
  obtain ⟨r, hr1, hr2⟩ := dget_rd (g2.fh _ _ hd) hk (f s)
  refine ⟨d, r, ew, by rw [show v = .int (f s) from e1]; exact hr1, ?_⟩
  rw [hr2]
  exact q _ F2 H2 ((g1.mono (msAt_l (m2 := m2))).trans (g2.mono (msAt_r (m1 := m1)))) hh2 rfl
theorem DT.ninD {f : S → Int} {g : S → List Int} (hr : Room k X.A) (ha : DX K X Δ a (tInt K) m1 c1 Δ1 f ta) (hb : DX K X Δ1 b (tDic K) m2 c2 Δ2 g tb) (hm : behindInMarks .NotIn b = false := by with_unfolding_all rfl) : DT K X Δ (.Compare a [.NotIn] [b] pos) (m1 ++ m2) (c1 ++ (c2 ++ [])) Δ2 (fun s => !decide (f s ∈ g s)) (tB (tDNotIn ta tb)) := by
  obtain ⟨d1, p1, r1⟩ := ha
  obtain ⟨d2, p2, r2⟩ := hb
  refine ⟨d1.trans d2, pt_cmp (pc_dnotin (by have := hr.un; omega) p1 p2) hm, fun s F H σ hh sm hc Q q => ?_⟩
  obtain ⟨k1, k2⟩ := conj_app hc
  obtain ⟨k2, _⟩ := conj_app k2
  refine r1 s F H σ hh sm k1 _ fun v F1 H1 g1 hh1 e1 => r2 s F1 H1 σ hh1 g1.fh k2 _ fun w F2 H2 g2 hh2 ⟨d, o, kvs, ew, hd, hk, _⟩ => ?_
  obtain ⟨r, hr1, hr2⟩ := dget_rd (g2.fh _ _ hd) hk (f s)
  refine ⟨d, r, ew, by rw [show v = .int (f s) from e1]; exact hr1, ?_⟩
  rw [hr2]
  exact ⟨_, rfl, q F2 H2 ((g1.mono (msAt_l (m2 := m2))).trans (g2.mono (msAt_r (m1 := m1)))) hh2⟩
end
end Dx

/-! Dx, part a: dict comprehensions, ranges with a step. -/
namespace Dx
open PySem PySem.Spec PyProof PyProof.Rows L2
/-- the keys of {k: v for ..} -/
def dcV {α : Type} (xs : List α) (t : α → Bool) (f : α → Int) : List Int := ((xs.filter t).map f).foldl insK []
theorem insK_len (ks : List Int) (k : Int) : (insK ks k).length ≤ ks.length + 1 := by
  unfold insK
  split
  · exact Nat.le_succ _
  · simp
theorem dcV_len {α : Type} (xs : List α) (t : α → Bool) (f : α → Int) : (dcV xs t f).length ≤ xs.length := by
  have h : ∀ (ys : List Int) (ks : List Int), (ys.foldl insK ks).length ≤ ks.length + ys.length := by
    intro ys
    induction ys with
    | nil => intro ks; exact Nat.le_refl _
    | cons y ys ih =>
      intro ks
      have h1 := ih (insK ks y)
      have h2 := insK_len ks y
      rw [List.length_cons]
      show (ys.foldl insK (insK ks y)).length ≤ _
      omega
  have h1 := h ((xs.filter t).map f) []
  rw [List.length_map, List.length_nil] at h1
  have h2 := List.length_filter_le t xs
  unfold dcV
  omega
section
variable {K : PySem.W.Frag} {X : Cx} {S R : Type} {Δ Δ1 Δ2 : Ctx K S} {st : Stmt} {e a b c tg iter kx vx : Expr} {es ifs : List Expr} {pos p' apos : Pos} {τ τe τ1 τ2 L : Ty K} {ω ω1 ω2 : OTy K} {mus ms m1 m2 m3 is vs : List Nat} {c1 c2 c3 cs : List (S → Prop)} {ta tb tc tk te : TE} {tt tx : TT} {tl : TA} {i j : Nat} {x y : Str}
/-- the reading of a dict comprehension -/
theorem dc_sem {Δb : Ctx K (S × τ.α)} {fx : S → List τ.α} {wi : TI} {g : TG} {ct ck ce : List (S × τ.α → Prop)} {ft : S × τ.α → Bool} {fk : S × τ.α → Int} {fe : S × τ.α → τe.α}
    (ri : ∀ s F H σ, Holds Δ s F H σ → Same F H → Conj c1 s → ∀ R : It → Hp → Prop, (∀ J F' H', Gr (MsAt ms σ) F H F' H' → Holds Δ1 s F' H' σ → Walks K J F' τ (fx s) → R J H') → wi σ H R)
    (lg : Δb.length = (Ctx.comap (T := S × τ.α) Prod.fst (killL Δ1 vs)).length) (rg : ∀ (s : S × τ.α) F H σ v, Holds (Ctx.comap (T := S × τ.α) Prod.fst (killL Δ1 vs)) s F H σ → Same F H → τ.rep F v s.2 → ∀ Q : L2.St → Hp → Prop, (∀ σ1, Holds Δb s F H σ1 → (∀ a, Own Δb σ1 a → Own (Ctx.comap (T := S × τ.α) Prod.fst (killL Δ1 vs)) σ a) → (∀ k, k ∉ is → σ1[k]? = σ[k]?) → Q σ1 H) → g v σ H Q)
    (rt : ∀ s F H σ, Holds Δb s F H σ → Same F H → Conj ct s → ∀ Q : Bool → Hp → Prop, (∀ F' H', Gr No F H F' H' → Q (ft s) H') → tt σ H Q)
    (rk : ∀ s F H σ, Holds Δb s F H σ → Same F H → Conj ck s → ∀ Q : VK, (∀ v F' H', Gr (MsAt [] σ) F H F' H' → Holds Δb s F' H' σ → (tInt K).rep F' v (fk s) → Q v H') → tk σ H Q)
    (re : ∀ s F H σ, Holds Δb s F H σ → Same F H → Conj ce s → ∀ Q : VK, (∀ v F' H', Gr (MsAt [] σ) F H F' H' → Holds Δb s F' H' σ → τe.rep F' v (fe s) → Q v H') → te σ H Q)
    (his : ∀ j ∈ is, j ∈ vs) :
    ∀ s F H σ, Holds Δ s F H σ → Same F H → Conj (c1 ++ [fun s => ∀ x ∈ fx s, Conj ct (s, x) ∧ (ft (s, x) = true → Conj ck (s, x) ∧ Conj ce (s, x))]) s → ∀ Q : VK, (∀ p u F' H', Gr (MsAt ms σ) F H F' H' → Holds Δ1 s F' H' σ → H p = none → F' p = none → H' p = some u → (oDic K).own F' u (dcV (fx s) (fun x => ft (s, x)) (fun x => fk (s, x))) → Q (.ref p) H') → tDc wi g tt tk te vs σ H Q := by
  intro s F H σ hh sm hcs Q q
  obtain ⟨k1, k2, _⟩ := conj_app hcs
  refine ri s F H σ hh sm k1 _ fun J F1 H1 g1 hh1 wk D hD => ?_
  have nD : F1 D = none := g1.fh.free hD
  refine ⟨fun i k H' => ∃ F' kvs, k = (fx s).length - i ∧ i ≤ (fx s).length ∧ Gr (fun a => a = D) F1 (upd H1 D (.dK [])) F' H' ∧ F' D = none ∧ H' D = some (.dK kvs) ∧ KeysOf kvs (dcV ((fx s).take i) (fun x => ft (s, x)) (fun x => fk (s, x))) ∧ Same F1 F',
    ⟨_, F1, [], rfl, Nat.zero_le _, Gr.refl (fun a o z => by rw [upd_ne (ne_of_none z nD)]; exact g1.fh a o z), nD, upd_same, by rw [List.take_zero]; rfl, Same.refl F1⟩, ?_⟩
  rintro i k H' ⟨F', acc, rfl, hi, g', n', e', pr, sf⟩
  have back : Gr No F1 H1 F' H' := gr_mk (fun a o z => g'.keep a o (by rw [upd_ne (ne_of_none z hD)]; exact z) fun w => by subst w; rw [hD] at z; cases z) g'.ff g'.fh fun a o z => by
    rcases g'.fresh a o z with w | w
    · exact .inl w
    · by_cases y : a = D
      · subst y; exact .inr hD
      · rw [upd_ne y] at w; exact .inr w
  have lt : ∀ n, (dcV ((fx s).take n) (fun x => ft (s, x)) (fun x => fk (s, x))).length ≤ min n (fx s).length := fun n => by
    refine Nat.le_trans (dcV_len _ _ _) ?_
    rw [List.length_take]
    exact Nat.le_refl _
  by_cases hlt : i < (fx s).length
  · refine .inr ?_
    have ex : (fx s)[i]? = some (fx s)[i] := List.getElem?_eq_getElem hlt
    obtain ⟨w1, w2⟩ := wk.go i _ F' H' sf g'.fh ex
    have kx := k2 _ (List.getElem_mem hlt)
    refine ⟨w1, fun H2 => ∃ F2 acc2, Gr (fun a => a = D) F1 (upd H1 D (.dK [])) F2 H2 ∧ F2 D = none ∧ H2 D = some (.dK acc2) ∧ KeysOf acc2 (dcV ((fx s).take (i + 1)) (fun x => ft (s, x)) (fun x => fk (s, x))) ∧ Same F1 F2, fun H2 ⟨F2, acc2, y1, y2, y3, y4, y5⟩ => ⟨_, by omega, F2, acc2, rfl, hlt, y1, y2, y3, y4, y5⟩, fun v H2 hy => ?_⟩
    obtain ⟨F2, g2, rv⟩ := w2 v H2 hy
    have hhk : Holds (Ctx.comap (T := S × τ.α) Prod.fst (killL Δ1 vs)) (s, (fx s)[i]) F2 H2 (wipe σ vs) := comap_holds (kill_holds ((hh1.grow back).grow g2))
    refine rg (s, (fx s)[i]) F2 H2 (wipe σ vs) v hhk g2.fh rv _ fun σ3 hh3 ow3 nx3 => ⟨?_, ?_⟩
    · apply List.ext_getElem?
      intro j
      by_cases hj : j ∈ vs
      · have : ∀ {σ : L2.St} {ws : List Nat}, j ∈ ws → (wipe σ ws)[j]? = if j < σ.length then some none else none := by
          intro σ ws
          induction ws with
          | nil => intro h; cases h
          | cons w ws ih =>
            intro h
            unfold wipe
            by_cases hw : w = j
            · subst hw
              rw [List.getElem?_set, if_pos rfl, wipe_length]
            · rw [List.getElem?_set_ne hw]
              exact ih ((List.mem_cons.mp h).resolve_left fun z => hw z.symm)
        rw [this hj, this hj]
        have l3 : σ3.length = (wipe σ vs).length := by rw [hh3.len, hhk.len]; exact lg
        rw [l3, wipe_length]
      · rw [wipe_out hj, wipe_out hj, nx3 j fun z => hj (his j z), wipe_out hj]
    · refine rt _ F2 H2 σ3 hh3 g2.fh kx.1 _ fun F3 H3 g3 => ?_
      have ek : (fx s).take (i + 1) = (fx s).take i ++ [(fx s)[i]] := by rw [List.take_add_one, ex]; rfl
      have gD : Gr (fun a => a = D) F1 (upd H1 D (.dK [])) F3 H3 := g'.trans ((g2.trans g3).of0)
      have stay : ∀ {Fa Ha Fb Hb : Hp}, Gr No Fa Ha Fb Hb → Fa D = none → Ha D = some (.dK acc) → Fb D = none ∧ Hb D = some (.dK acc) := fun {Fa Ha Fb Hb} g n h => by
        refine ⟨?_, g.same _ _ h⟩
        cases z : Fb D with
        | none => rfl
        | some o =>
          rcases g.fresh D o z with w | w
          · rw [n] at w; cases w
          · rw [h] at w; cases w
      obtain ⟨n3, e3⟩ := stay (g2.trans g3) n' e'
      cases et : ft (s, (fx s)[i]) with
      | false =>
        show ∃ F2 acc2, _
        refine ⟨F3, acc, gD, n3, e3, ?_, sf.trans (g2.trans g3).ff⟩
        rw [ek]
        unfold dcV
        rw [List.filter_append, List.map_append, show List.filter (fun x => ft (s, x)) [(fx s)[i]] = [] by simp [et]]
        simp only [List.map_nil, List.append_nil]
        exact pr
      | true =>
        show tk σ3 H3 _
        refine rk _ F3 H3 σ3 (hh3.grow g3) g3.fh (kx.2 et).1 _ fun kv F4 H4 g4 hh4 r4 => ?_
        rw [msAt_nil] at g4
        refine re _ F4 H4 σ3 hh4 g4.fh (kx.2 et).2 _ fun w F5 H5 g5 hh5 r5 => ?_
        rw [msAt_nil] at g5
        obtain ⟨n4, e4⟩ := stay (g4.trans g5) n3 e3
        have ll : acc.length < sizeLine := by
          rw [keys_len pr]
          have := lt i
          have := wk.len
          omega
        refine ⟨acc, .inl (fk (s, (fx s)[i])), by rw [show kv = .int _ from r4]; rfl, e4, ll, F5, putK acc (.inl (fk (s, (fx s)[i]))) w, ?_, n4, upd_same, ?_, sf.trans ((g2.trans g3).trans (g4.trans g5)).ff⟩
        · have g6 := gD.trans ((g4.trans g5).of0 (B := fun a => a = D))
          refine g6.trans ⟨Same.refl F5, fun a o z => by rw [upd_ne (ne_of_none z n4)]; exact (g4.trans g5).fh a o z, fun a o z => .inl z, fun a o z nz => by rw [upd_ne nz]; exact z, fun a z => ?_⟩
          by_cases y : a = D
          · subst y; rw [upd_same] at z; cases z
          · rw [upd_ne y] at z; exact z
        · rw [ek]
          unfold dcV
          rw [List.filter_append, List.map_append, show List.filter (fun x => ft (s, x)) [(fx s)[i]] = [(fx s)[i]] by simp [et], List.foldl_append]
          exact keys_put pr _
  · refine .inl ⟨wk.stop i F' H' sf g'.fh (by omega), ?_⟩
    have ed : (fx s).take i = fx s := List.take_of_length_le (by omega)
    rw [ed] at pr
    refine q D (.dK acc) F' H' (g1.trans back.of0) (hh1.grow back) (g1.dom D hD) n' e' ⟨acc, rfl, pr, ?_⟩
    have := lt (fx s).length
    rw [List.take_length] at this
    have := wk.len
    omega
/-- {kx: vx for tg in iter if ..} without effects -/
theorem DO.dc {scope : Scope} {own : List (Str × Nat)} {Δb : Ctx K (S × τ.α)} {fx : S → List τ.α} {wi : TI} {g : TG} {ct ck ce : List (S × τ.α → Prop)} {ft : S × τ.α → Bool} {fk : S × τ.α → Int} {fe : S × τ.α → τe.α} (hN : X.N.Nodup) (hi : DI K X Δ tg iter τ ms c1 Δ1 fx wi) (ok : BlkOk X.N X.env.scope scope own)
    (hg : ∀ (s : Shared) (H : Hp) (C : Addr) (cl : List (Str × Addr)) (fp : List Addr), DG K (X.blk s H scope (compEnvC scope cl C X.env) fp) (Ctx.comap (T := S × τ.α) Prod.fst (killL Δ1 (own.map (·.2)))) tg τ Prod.snd is Δb g)
    (ht : ∀ (s : Shared) (H : Hp) (C : Addr) (cl : List (Str × Addr)) (fp : List Addr), DTs' K (X.blk s H scope (compEnvC scope cl C X.env) fp) Δb ifs ct ft tt)
    (hk : ∀ (s : Shared) (H : Hp) (C : Addr) (cl : List (Str × Addr)) (fp : List Addr), DX K (X.blk s H scope (compEnvC scope cl C X.env) fp) Δb kx (tInt K) [] ck Δb fk tk)
    (he : ∀ (s : Shared) (H : Hp) (C : Addr) (cl : List (Str × Addr)) (fp : List Addr), DX K (X.blk s H scope (compEnvC scope cl C X.env) fp) Δb vx τe [] ce Δb fe te) (his : ∀ j ∈ is, j ∈ own.map (·.2)) (hc : X.calm = true := by rfl) (hs : ∀ x, foldedSetIterable iter X.env x = pure x := by intro _; rfl) :
    DO K X Δ (.DictComp kx vx [⟨tg, iter, ifs, 0⟩] scope pos) (oDic K) ms (c1 ++ [fun s => ∀ x ∈ fx s, Conj ct (s, x) ∧ (ft (s, x) = true → Conj ck (s, x) ∧ Conj ce (s, x))]) Δ1 (fun s => dcV (fx s) (fun x => ft (s, x)) (fun x => fk (s, x))) (tDc wi g tt tk te (own.map (·.2))) :=
  ⟨hi.1, pe_dc hc hN hi.2.1 ok (fun s H C cl fp => (hg s H C cl fp).2.1) (fun s H C cl fp => (ht s H C cl fp).1) (fun s H C cl fp => (hk s H C cl fp).2.1) (fun s H C cl fp => (he s H C cl fp).2.1) hs, by
    have s0 : Shared := {}
    exact dc_sem (is := is) hi.2.2 (hg s0 (fun _ => none) 0 [] []).1 (hg s0 (fun _ => none) 0 [] []).2.2 (ht s0 (fun _ => none) 0 [] []).2 (hk s0 (fun _ => none) 0 [] []).2.2 (he s0 (fun _ => none) 0 [] []).2.2 his⟩
/-! ### range with a step -/
end
end Dx

/-! Dx, part b: text times number, x += text, repr of data of any kind. -/
namespace Dx
open PySem PySem.Spec PyProof PyProof.Rows L2
/-! ### enumerate(text) -/
section
variable {K : PySem.W.Frag} {X : Cx} {S : Type} {Δ Δ1 : Ctx K S} {e : Expr} {elts : List Expr} {pos : Pos} {ms : List Nat} {c1 : List (S → Prop)} {ta : TE}
end
section
variable {K : PySem.W.Frag} {X : Cx} {S : Type} {Δ Δ1 Δ2 : Ctx K S} {e a b : Expr} {pos px : Pos} {τ : Ty K} {ms m1 m2 mus : List Nat} {c1 c2 : List (S → Prop)} {ta tb : TE} {i n : Nat} {x : Str}
/-- repr of data of any kind -/
def ShowA (d : PyData) : Prop := d.showable = true ∧ d.hasDict = false ∧ d.shown.length ≤ sizeLine
end
end Dx

set_option maxHeartbeats 4000000
/-! Dx, part c: tuples of any length. -/
namespace Dx
open PySem PySem.Spec PyProof PyProof.Rows L2
section
variable {X : Cx}
end
section
variable {K : PySem.W.Frag}
/-- a tuple of any length -/
abbrev tSeq (τ : Ty K) : Ty K := ⟨List τ.α, fun F v xs => ∃ a vs, v = .ref a ∧ F a = some (.tup vs) ∧ Paired (τ.rep F) vs xs ∧ xs.length ≤ sizeLine,
  fun h ⟨a, vs, e, q, p, z⟩ => ⟨a, vs, e, h _ _ q, paired_mono (fun _ _ r => τ.mono h r) p, z⟩⟩
theorem lf_seq {τ : Ty K} (h : LF τ) : LF (tSeq τ) := fun F F' v x k ⟨a, vs, e, q, p, z⟩ => ⟨a, vs, e, k a vs q, paired_mono (fun v y r => h F F' v y k r) p, z⟩
def dfSeq {α : Type} (d : DF α) : DF (List α) := ⟨fun xs => .tuple (xs.map d.toD), @instDecidableEqList α d.dec, d.n + 1⟩
theorem pd_seq {α : Type} {d : DF α} (h : PlainD d) : PlainD (dfSeq d) := ⟨fun xs => (pd_list h).dep xs, fun xs ys => (pd_list h).eqv xs ys, fun xs => (pd_list h).nodict xs⟩
theorem dat_seq {τ : Ty K} {d : DF τ.α} (h : Dat τ d) : Dat (tSeq τ) (dfSeq d) := ⟨fun ⟨a, vs, e, q, p, _⟩ => by
    rw [e]
    exact .tup (.inl (.inl q)) (dp_all h p).1, fun ⟨a, vs, e, q, p, _⟩ => (dp_all h p).2, pd_seq h.pl⟩
end
section
variable {K : PySem.W.Frag} {X : Cx} {S R : Type} {Δ Δ1 Δ2 : Ctx K S} {e a b : Expr} {pos px : Pos} {τ : Ty K} {ms m1 m2 : List Nat} {c1 c2 cs : List (S → Prop)} {ta tb : TE} {i n : Nat} {x : Str} {mus : List Nat} {sts : List Stmt} {fm : Fm K R}
theorem sqt {F H : Hp} {a : Addr} {vs : List V} (sm : Same F H) (h : F a = some (.tup vs)) : SqT K H a vs := .inl (.inl (sm _ _ h))
/-- x[i] -/
theorem DX.ixSq (d : τ.α) {f : S → List τ.α} {g : S → Int} (ha : DX K X Δ a (tSeq τ) m1 c1 Δ1 f ta) (hb : DX K X Δ1 b (tInt K) m2 c2 Δ2 g tb) (hp : PlainIx b := by exact fun _ _ => rfl) (hK : X.K = K := by rfl) : DX K X Δ (.Subscript a b pos) τ (m1 ++ m2) (c1 ++ (c2 ++ [fun s => IxOk (f s) (g s)])) Δ2 (fun s => ixI d (f s) (g s)) (tOp (rIxT K) ta tb) := by
  subst hK
  exact DX.bin (τ := τ) (cc := [fun (x : List τ.α) (i : Int) => IxOk x i]) (g := fun (x : List τ.α) (i : Int) => ixI d x i) (fun x y v u F H sm r1 r2 hc Q q => by
    obtain ⟨p, vs, e, sq, pr, _⟩ := r1
    have r2' : v = _ := rfl
    subst e
    have r2'' : u = .int y := r2
    subst r2''
    obtain ⟨j, e1, e2⟩ := ix_at (d := d) hc.1
    obtain ⟨z, e3, rz⟩ := paired_at pr e2
    refine ⟨p, vs, y, z, rfl, rfl, sqt sm sq, ?_, q z F H (Gr.refl sm) rz⟩
    unfold atI
    rw [pr.length, e1]
    exact e3) ha hb fun p q => pe_ix ix_tup p q hp
/-- tuple(list) -/
theorem DX.tupOf {px : Pos} {f : S → List τ.α} (hm : X.mg "tuple" = none) (he : DX K X Δ e (tList τ) ms c1 Δ1 f ta) (hK : X.K = K := by rfl) (hg : Gl X "tuple" := by rfl) (hs : starEach [e] X.env = (false, eval e X.env) :: starEach [] X.env := by rfl) :
    DX K X Δ (.Call (.Name "tuple" px) [e] [] pos) (tSeq τ) ms c1 Δ1 f (tThen ta (kTup K)) := by
  subst hK
  obtain ⟨d1, p, r⟩ := he
  refine ⟨d1, pe_tupleOf hg hm p hs, fun s F H σ hh sm hc Q q => ?_⟩
  refine r s F H σ hh sm hc _ fun v F1 H1 g1 hh1 ⟨a, vs, ev, sq, pr, z⟩ => .inl ⟨a, vs, ev, .inl (.inl (g1.fh _ _ sq)), fun p n => ?_⟩
  have g2 : Gr No F1 H1 (upd F1 p (.tup vs)) (upd H1 p (.tup vs)) := Gr.new g1.fh n
  exact q _ _ _ (g1.trans g2.of0) (hh1.grow g2) ⟨p, vs, rfl, upd_same, paired_mono (fun _ _ r => τ.mono g2.ff r) pr, z⟩
/-- list(x) -/
theorem DO.listSq {px : Pos} {f : S → List τ.α} (hm : X.mg "list" = none) (he : DX K X Δ e (tSeq τ) ms c1 Δ1 f ta) (hK : X.K = K := by rfl) (hg : Gl X "list" := by rfl) (hs : starEach [e] X.env = (false, eval e X.env) :: starEach [] X.env := by rfl) (hpl : (backTo pos (starEach [] X.env)).any (·.1) = false := by rfl) :
    DO K X Δ (.Call (.Name "list" px) [e] [] pos) (oList τ) ms c1 Δ1 f (tCB (fun xs H Q => ∃ p ys, xs = [.ref p] ∧ (SqL K H p ys ∨ SqT K H p ys) ∧ ∀ l, H l = none → Q (.ref l) (upd H l (.lst ys))) (tCons ta tNil)) := by
  subst hK
  refine DO.call1 (ω := oList τ) (g := fun (x : List τ.α) => x) (fun v x F H sm r Q q => ?_) he (fun pa => pe_callTy call_list_of hg hm (by decide +kernel) pa (by decide) (by decide) hs hpl) hs
  obtain ⟨a, vs, ev, sq, pr, z⟩ := r
  exact ⟨a, vs, by rw [ev], .inr (sqt sm sq), fun p n => q p _ n ⟨_, rfl, pr, z⟩⟩
end
/-! ### an own list told anew -/
section
variable {K : PySem.W.Frag} {X : Cx} {S R : Type} {Δ Δ1 : Ctx K S} {τ : Ty K} {ω ω' : OTy K} {i : Nat} {mus : List Nat} {sts : List Stmt} {fm : Fm K R} {cs : List (S → Prop)} {s : S} {F H : Hp} {σ : L2.St}
theorem Holds.re {f : S → ω.τ.α} {f' : S → ω'.τ.α} (hh : Holds Δ s F H σ) (h : Δ[i]? = some (.ow ω f)) (hc : ∀ u, ω.own F u (f s) → ω'.own F u (f' s)) : Holds (Δ.set i (.ow ω' f')) s F H σ where
  len := by rw [List.length_set, hh.len]
  at_ := fun j sl o e1 e2 => by
    rcases get_set1 e1 with ⟨rfl, rfl, _⟩ | ⟨n1, e1⟩
    · obtain ⟨p, u, e3, n, hp, w⟩ := hh.at_ i _ o h e2
      exact ⟨p, u, e3, n, hp, hc u w⟩
    · exact hh.at_ j sl o e1 e2
  sep := fun j k ω1 ω2 g g' q ne e1 e2 e3 => by
    rcases get_set1 e1 with ⟨a1, _, _⟩ | ⟨_, e1⟩
    · rcases get_set1 e2 with ⟨a2, _, _⟩ | ⟨_, e2⟩
      · exact absurd (a1.symm.trans a2) ne
      · subst a1
        exact hh.sep _ k ω ω2 f g' q ne h e2 e3
    · rcases get_set1 e2 with ⟨a2, _, _⟩ | ⟨_, e2⟩
      · subst a2
        exact hh.sep j _ ω1 ω g f q ne e1 h e3
      · exact hh.sep j k ω1 ω2 g g' q ne e1 e2 e3
theorem grs_re {f : S → ω.τ.α} {f' : S → ω'.τ.α} (sm : Same F H) (h : Δ[i]? = some (.ow ω f)) : GrS mus Δ σ (Δ.set i (.ow ω' f')) σ F H F H where
  ff := Same.refl F
  fh := sm
  fresh := fun a o e => .inl e
  keep := fun a o e _ => e
  dom := fun a e => e
  own := fun a ⟨j, ω2, g, e1, e2⟩ => by
    rcases get_set1 e1 with ⟨a1, _, _⟩ | ⟨_, e1⟩
    · subst a1; exact .inl ⟨_, ω, f, h, e2⟩
    · exact .inl ⟨j, ω2, g, e1, e2⟩
  mu := fun _ _ => rfl
theorem own_some (nv : ∀ {F : Hp} {v : V} {x : τ.α}, τ.rep F v x → v ≠ .non) {F : Hp} {u : HO} {xs : List τ.α} (h : (oList τ).own F u xs) : (oList (tOpt τ)).own F u (xs.map some) := by
  obtain ⟨vs, e, p, z⟩ := h
  refine ⟨vs, e, ?_, by rw [List.length_map]; exact z⟩
  clear e z
  induction p with
  | nil => exact .nil
  | cons r _ ih => exact .cons ⟨nv r, r⟩ ih
theorem DR.some (i : Nat) {f : S → List τ.α} {g : S → R} (nv : ∀ {F : Hp} {v : V} {x : τ.α}, τ.rep F v x → v ≠ .non) (h : Δ[i]? = Option.some (.ow (oList τ) f)) (hb : DR K X fm (Δ.set i (.ow (oList (tOpt τ)) fun s => (f s).map Option.some)) sts cs g) : DR K X fm Δ sts cs g := by
  obtain ⟨t, p, r⟩ := hb
  refine ⟨t, p, fun s F H σ hh sm hc D q => ?_⟩
  have g := grs_re (mus := musOf 0 fm.ps) (ω' := oList (tOpt τ)) (f' := fun s => (f s).map Option.some) (σ := σ) sm h
  exact r s F H σ (hh.re h fun u w => own_some nv w) sm hc D (q.back g)
theorem DN.some (i : Nat) {f : S → List τ.α} (nv : ∀ {F : Hp} {v : V} {x : τ.α}, τ.rep F v x → v ≠ .non) (h : Δ[i]? = Option.some (.ow (oList τ) f)) (hb : DN K X mus (Δ.set i (.ow (oList (tOpt τ)) fun s => (f s).map Option.some)) sts cs Δ1) : DN K X mus Δ sts cs Δ1 := by
  obtain ⟨t, p, r⟩ := hb
  refine ⟨t, p, fun s F H σ hh sm hc D q => ?_⟩
  have g := grs_re (mus := mus) (ω' := oList (tOpt τ)) (f' := fun s => (f s).map Option.some) (σ := σ) sm h
  exact r s F H σ (hh.re h fun u w => own_some nv w) sm hc D fun σ1 F1 H1 g1 hh1 => q σ1 F1 H1 (g.trans g1) hh1
theorem DM.some (i : Nat) {f : S → List τ.α} {g : S → Option R} (nv : ∀ {F : Hp} {v : V} {x : τ.α}, τ.rep F v x → v ≠ .non) (h : Δ[i]? = Option.some (.ow (oList τ) f)) (hb : DM K X fm (Δ.set i (.ow (oList (tOpt τ)) fun s => (f s).map Option.some)) sts cs g Δ1) : DM K X fm Δ sts cs g Δ1 := by
  obtain ⟨t, p, r⟩ := hb
  refine ⟨t, p, fun s F H σ hh sm hc D q1 q2 => ?_⟩
  have g := grs_re (mus := musOf 0 fm.ps) (ω' := oList (tOpt τ)) (f' := fun s => (f s).map Option.some) (σ := σ) sm h
  exact r s F H σ (hh.re h fun u w => own_some nv w) sm hc D (fun x e => (q1 x e).back g) fun e σ1 F1 H1 g1 hh1 => q2 e σ1 F1 H1 (g.trans g1) hh1
end
end Dx

/-! Dx, part d: an own list lent to a statement. -/
namespace Dx
open PySem PySem.Spec PyProof PyProof.Rows L2
section
variable {K : PySem.W.Frag} {X : Cx} {S : Type} {Δ Δ1 : Ctx K S} {ω : OTy K} {i : Nat} {mus : List Nat} {st : Stmt} {cs : List (S → Prop)}
def LfSlot : Slot K S → Prop
  | .dead => True
  | .fz τ _ => LF τ
  | .ow ω _ => LFo ω
/-- each slot behind the statement holds no list, or is one that stayed -/
inductive Lends (js : List Nat) (i : Nat) : Nat → Ctx K S → Ctx K S → Prop
  | nil {k : Nat} : Lends js i k [] []
  | self {Δ Δ1 : Ctx K S} {a b : Slot K S} (t : Lends js i (i + 1) Δ Δ1) : Lends js i i (a :: Δ) (b :: Δ1)
  | lf {k : Nat} {Δ Δ1 : Ctx K S} {a b : Slot K S} (h : LfSlot b) (t : Lends js i (k + 1) Δ Δ1) : Lends js i k (a :: Δ) (b :: Δ1)
  | stay {k : Nat} {Δ Δ1 : Ctx K S} {τ : Ty K} {f : S → τ.α} (h : k ∈ js) (t : Lends js i (k + 1) Δ Δ1) : Lends js i k (.fz τ f :: Δ) (.fz τ f :: Δ1)
theorem Lends.at_ {js : List Nat} {i : Nat} : ∀ {k : Nat} {Δ Δ1 : Ctx K S}, Lends js i k Δ Δ1 → ∀ (j : Nat) (sl : Slot K S), Δ1[j]? = some sl → k + j = i ∨ LfSlot sl ∨ (k + j ∈ js ∧ ∃ (τ : Ty K) (f : S → τ.α), sl = .fz τ f ∧ Δ[j]? = some (.fz τ f))
  | _, _, _, .nil, j, sl, e => by simp at e
  | _, _, _, .self t, 0, sl, e => .inl rfl
  | _, _, _, .self t, j + 1, sl, e => by
    have := t.at_ j sl e
    rwa [show i + (j + 1) = i + 1 + j by omega]
  | _, _, _, .lf h t, 0, sl, e => by
    have e' : _ = sl := Option.some.inj e
    subst e'
    exact .inr (.inl h)
  | k, _, _, .lf h t, j + 1, sl, e => by
    have := t.at_ j sl e
    rwa [show k + (j + 1) = k + 1 + j by omega]
  | _, _, _, .stay h t, 0, sl, e => by
    have e' : _ = sl := Option.some.inj e
    subst e'
    exact .inr (.inr ⟨h, _, _, rfl, rfl⟩)
  | k, _, _, .stay h t, j + 1, sl, e => by
    have := t.at_ j sl e
    rwa [show k + (j + 1) = k + 1 + j by omega]
end
end Dx

/-! Dx, part e: dict(pairs) of ints, d[k]. -/
namespace Dx
open PySem PySem.Spec PyProof PyProof.Rows L2
def addrAt (its : List Value) (j : Nat) : Addr := match its[j]? with | some (.ref T) => T | _ => 0
section
variable {X : Cx} {pins : List (Addr × Obj)} {σ : L2.St} {H : Hp} {s : Shared}
end
/-! ### dicts of ints as maps -/
section
variable {K : PySem.W.Frag}
end
section
variable {K : PySem.W.Frag} {X : Cx} {S : Type} {Δ Δ1 Δ2 : Ctx K S} {e a b : Expr} {pos px : Pos} {ms m1 m2 : List Nat} {c1 c2 : List (S → Prop)} {ta tb : TE} {k : Nat}
end
end Dx

/-! Dx, part f: a, b = list; for x in (a, b). -/
namespace Dx
open PySem PySem.Spec PyProof PyProof.Rows L2
section
variable {K : PySem.W.Frag}
end
section
variable {K : PySem.W.Frag} {X : Cx} {S : Type} {Δ Δ1 : Ctx K S} {e tg : Expr} {pos : Pos} {τ : Ty K} {ts : List (Ty K)} {ms : List Nat} {c1 : List (S → Prop)} {ta : TE}
/-- (a, b) as a tuple of any length -/
theorem DX.asSeq2 {f : S → τ.α × τ.α} (he : DX K X Δ e (tTp [τ, τ]) ms c1 Δ1 f ta) : DX K X Δ e (tSeq τ) ms c1 Δ1 (fun s => [(f s).1, (f s).2]) ta :=
  ⟨he.1, he.2.1, fun s F H σ hh sm hc Q q => he.2.2 s F H σ hh sm hc Q fun v F1 H1 g hh1 ⟨a, vs, ev, sq, r⟩ => by
    obtain ⟨v1, rest, e1, r1, v2, e2, r2⟩ := r
    subst e1 e2
    have := sizeLine_eq
    exact q v F1 H1 g hh1 ⟨a, _, ev, sq, .cons r1 (.cons r2 .nil), by show 2 ≤ sizeLine; omega⟩⟩
theorem DI.seqT {f : S → List τ.α} (he : DX K X Δ e (tSeq τ) ms c1 Δ1 f ta) (hK : X.K = K := by rfl) : DI K X Δ tg e τ ms c1 Δ1 f (iTup K ta) := by
  subst hK
  obtain ⟨d1, p, r⟩ := he
  refine ⟨d1, pi_tup p, fun s F H σ hh sm hc R q => r s F H σ hh sm hc _ fun v F1 H1 g1 hh1 ⟨a, vs, ev, sq, pr, z⟩ => ?_⟩
  exact ⟨a, ev, ⟨vs, sqt g1.fh sq⟩, q _ F1 H1 g1 hh1 (walks_tup (sqt (Same.refl F1) sq) pr z)⟩
end
end Dx

/-! Dx, part g: a comprehension in a comprehension. -/
namespace Dx
open PySem PySem.Spec PyProof PyProof.Rows L2
theorem blkOk_in {X : Cx} {s : Shared} {H : Hp} {scope scope2 sc : Scope} {cl : List (Str × Addr)} {C : Addr} {fp : List Addr} {N : List Str} {own : List (Str × Nat)} (hN : X.N = N) (hs : X.env.scope = sc) (h : blkC N (relS scope sc) scope2 own = true) :
    BlkOk (X.blk s H scope (compEnvC scope cl C X.env) fp).N (X.blk s H scope (compEnvC scope cl C X.env) fp).env.scope scope2 own := by
  have e : (X.blk s H scope (compEnvC scope cl C X.env) fp).env.scope = relS scope X.env.scope := rfl
  rw [e, hs]
  show BlkOk X.N _ _ _
  rw [hN]
  exact blkOk_by h
end Dx

/-! Dx, part h: the rest of a body by cases; a rest that is not reached; None as data or None. -/
namespace Dx
open PySem PySem.Spec PyProof PyProof.Rows L2
section
variable {K : PySem.W.Frag} {X : Cx} {S R : Type} {Δ Δ1 : Ctx K S} {sts : List Stmt} {e : Expr} {τ : Ty K} {ms : List Nat} {c1 c2 : List (S → Prop)} {ta : TE} {fm : Fm K R}
theorem nv_lst {F : Hp} {v : V} {x : (tList τ).α} (r : (tList τ).rep F v x) : v ≠ .non := fun z => by
  obtain ⟨a, vs, e, _⟩ := r
  rw [z] at e; cases e
end
end Dx

/-! Dx, part i: and, or with effects behind as a value; x in a list of data; the end of a tuple. -/
namespace Dx
open PySem PySem.Spec PyProof PyProof.Rows L2
section
variable {K : PySem.W.Frag} {X : Cx} {S : Type} {Δ Δ1 Δ2 Δ3 : Ctx K S} {a b : Expr} {rest : List Expr} {pos p2 : Pos} {τ : Ty K} {ω : OTy K} {m1 m2 ms : List Nat} {c1 c2 c3 : List (S → Prop)} {ta tb : TE}
/-! #### x in a list of data -/
section
variable {k : Nat} {d : DF τ.α} {ga : S → τ.α} {gb : S → List τ.α}
end
/-! #### a == b == c -/
section
variable {k : Nat} {d : DF τ.α} {fa fb fc : S → τ.α} {tc : TE} {c : Expr}
end
/-! #### the end of a tuple -/
end
end Dx

/-! Dx, part j: x not in a list of data. -/
namespace Dx
open PySem PySem.Spec PyProof PyProof.Rows L2
section
variable {K : PySem.W.Frag} {X : Cx} {S : Type} {Δ Δ1 Δ2 Δ3 : Ctx K S} {a b : Expr} {rest : List Expr} {pos p2 : Pos} {τ : Ty K} {ω : OTy K} {m1 m2 ms : List Nat} {c1 c2 c3 : List (S → Prop)} {ta tb : TE}
section
variable {k : Nat} {d : DF τ.α} {ga : S → τ.α} {gb : S → List τ.α}
end
end
end Dx

/-! Dx, part k: while. -/
namespace Dx
open PySem PySem.Spec PyProof.Rows L2
section
variable {K : PySem.W.Frag} {X : Cx} {S M R : Type} {fm : Fm K R} {Δ : Ctx K S} {Δl : Ctx K (S × M)} {body : List Stmt} {c : Expr} {pos : Pos} {Δe : Ctx K ((S × M) × Unit)} {mus : List Nat} {ct cb : List ((S × M) × Unit → Prop)} {tx : TT} {init : S → M} {step : (S × M) × Unit → M} {h : (S × M) × Unit → Bool}
end
/-! ### bits; x //= e and the like -/
section
variable {K : PySem.W.Frag} {X : Cx} {S : Type} {Δ Δ1 Δ2 : Ctx K S} {e a b : Expr} {pos : Pos} {m1 m2 mus : List Nat} {c1 c2 : List (S → Prop)} {ta tb : TE} {i : Nat} {x : Str} {fa fb : S → Int}
end
end Dx

/-! Dx, part l: list(range(n)), the place of a thing in a list. -/
namespace Dx
open PySem PySem.Spec PyProof PyProof.Rows L2
section
variable {K : PySem.W.Frag} {X : Cx} {S : Type} {Δ Δ1 Δ2 : Ctx K S} {e a b : Expr} {pos px apos : Pos} {τ : Ty K} {ms m1 m2 : List Nat} {c1 c2 : List (S → Prop)} {ta tb : TE} {i : Nat} {x : Str} {k : Nat} {d : DF τ.α}
end
end Dx

/-! Dx, part m: len(set(ints)), dict(pairs) as a row of keys. -/
namespace Dx
open PySem PySem.Spec PyProof PyProof.Rows L2
section
variable {X : Cx}
end
section
variable {K : PySem.W.Frag} {X : Cx} {S : Type} {Δ Δ1 : Ctx K S} {e : Expr} {pos px pos2 px2 : Pos} {τ L : Ty K} {ms : List Nat} {c1 : List (S → Prop)} {ta : TE}
/-! ### dict(pairs): its keys -/
end
end Dx

/-! Dx, part n: [elt for x in xs for y in ys]; tuples of one and of two as tuples of any length. -/
namespace Dx
open PySem PySem.Spec PyProof PyProof.Rows L2
section
variable {K : PySem.W.Frag} {S : Type}
end
section
variable {K : PySem.W.Frag} {X : Cx} {S : Type} {Δ Δ1 : Ctx K S} {tg iter tg1 iter1 elt : Expr} {pos : Pos} {τ τ1 τe : Ty K} {ms is is1 vs vs1 : List Nat} {c1 : List (S → Prop)} {te : TE}
/-! ### displays of one and two, as tuples of any length -/
end
end Dx

/-! Dx, part o: dicts from ints to values of one type, as rows of pairs. -/
namespace Dx
open PySem PySem.Spec PyProof PyProof.Rows L2
section
variable {K : PySem.W.Frag}
def KVs (τ : Ty K) (F : Hp) (kvs : List (Key × V)) (xs : List (Int × τ.α)) : Prop := Paired (fun (kv : Key × V) (p : Int × τ.α) => kv.1 = .inl p.1 ∧ τ.rep F kv.2 p.2) kvs xs
def getP {α : Type} (xs : List (Int × α)) (k : Int) : Option α := (xs.find? fun p => decide (p.1 = k)).map (·.2)
def putP {α : Type} (xs : List (Int × α)) (k : Int) (x : α) : List (Int × α) := if k ∈ xs.map (·.1) then xs.map (fun p => if p.1 = k then (p.1, x) else p) else xs ++ [(k, x)]
theorem KVs.mono {τ : Ty K} {F F' : Hp} {kvs : List (Key × V)} {xs : List (Int × τ.α)} (h : Same F F') (r : KVs τ F kvs xs) : KVs τ F' kvs xs := paired_mono (fun _ _ z => ⟨z.1, τ.mono h z.2⟩) r
theorem KVs.keys {τ : Ty K} {F : Hp} : ∀ {kvs : List (Key × V)} {xs : List (Int × τ.α)}, KVs τ F kvs xs → KeysOf kvs (xs.map (·.1))
  | _, _, .nil => rfl
  | _, _, .cons (a := kv) (b := p) h t => by
    have := KVs.keys (τ := τ) (F := F) t
    unfold KeysOf at this ⊢
    rw [List.map_cons, List.map_cons, List.map_cons, this, h.1]
theorem KVs.get {τ : Ty K} {F : Hp} (k : Int) : ∀ {kvs : List (Key × V)} {xs : List (Int × τ.α)}, KVs τ F kvs xs → (valV kvs (.inl k) = none ∧ getP xs k = none) ∨ ∃ v x, valV kvs (.inl k) = some v ∧ getP xs k = some x ∧ τ.rep F v x
  | _, _, .nil => .inl ⟨rfl, rfl⟩
  | _, _, .cons (a := kv) (b := p) h t => by
    by_cases e : p.1 = k
    · refine .inr ⟨kv.2, p.2, valV_pos (by rw [h.1, e]), ?_, h.2⟩
      unfold getP
      rw [List.find?_cons, decide_eq_true e]
      rfl
    · have e2 : ¬ kv.1 = .inl k := by rw [h.1]; exact fun z => e (Sum.inl.inj z)
      have e3 : ∀ l, getP (p :: l) k = getP l k := fun l => by
        unfold getP
        rw [List.find?_cons, decide_eq_false e]
      rw [valV_neg e2, e3]
      exact KVs.get k t
theorem KVs.put {τ : Ty K} {F : Hp} {kvs : List (Key × V)} {xs : List (Int × τ.α)} {v : V} {x : τ.α} (r : KVs τ F kvs xs) (k : Int) (h : τ.rep F v x) : KVs τ F (putK kvs (.inl k) v) (putP xs k x) := by
  unfold putK putP
  rw [keys_any r.keys]
  by_cases m : k ∈ xs.map (·.1)
  · rw [if_pos (decide_eq_true m), if_pos m]
    clear m
    induction r with
    | nil => exact .nil
    | @cons kv p _ _ q t ih =>
      rw [List.map_cons, List.map_cons]
      refine .cons ?_ ih
      by_cases e : p.1 = k
      · rw [if_pos (by rw [q.1, e]), if_pos e]; exact ⟨q.1, h⟩
      · rw [if_neg (by rw [q.1]; exact fun z => e (Sum.inl.inj z)), if_neg e]; exact q
  · rw [if_neg (by rw [decide_eq_false m]; exact Bool.false_ne_true), if_neg m]
    exact paired_app r (.cons ⟨rfl, h⟩ .nil)
/-- a dict that stays as it is -/
abbrev tMpL (τ : Ty K) : Ty K := ⟨List (Int × τ.α), fun F v xs => ∃ a o kvs, v = .ref a ∧ F a = some (.frz o (.dK kvs)) ∧ KVs τ F kvs xs ∧ xs.length ≤ sizeLine, fun h ⟨a, o, kvs, e1, e2, e3, e4⟩ => ⟨a, o, kvs, e1, h _ _ e2, e3.mono h, e4⟩⟩
end
section
variable {K : PySem.W.Frag} {X : Cx} {S : Type} {Δ Δ1 Δ2 : Ctx K S} {e a b tg : Expr} {pos px p2 : Pos} {τ : Ty K} {ms m1 m2 mus : List Nat} {cs c1 c2 : List (S → Prop)} {ta tb : TE} {i : Nat} {x : Str} {k : Nat}
end
/-! ### an own dict, locked from a statement on -/
end Dx
namespace L2
open PySem PySem.Spec PyProof PyProof.Rows
end L2
namespace Dx
open PySem PySem.Spec PyProof PyProof.Rows L2
section
variable {K : PySem.W.Frag} {X : Cx} {S R : Type} {fm : Fm K R} {Δ Δ1 : Ctx K S} {τ : Ty K} {mus : List Nat} {cs : List (S → Prop)} {i : Nat} {sts : List Stmt}
theorem Holds.lock {s : S} {F H : Hp} {σ : L2.St} {p : Addr} {u v : HO} {τ' : Ty K} {f' : S → τ'.α} {ω : OTy K} {f : S → ω.τ.α} (hh : Holds Δ s F H σ) (h : Δ[i]? = some (.ow ω f)) (hσ : σ[i]? = some (some (.ref p))) (hp : H p = some u) (n : F p = none) (r : τ'.rep (upd F p v) (.ref p) (f' s)) : Holds (Δ.set i (.fz τ' f')) s (upd F p v) (upd H p v) σ where
  len := by rw [List.length_set, hh.len]
  at_ := fun j sl o e1 e2 => by
    have sf : Same F (upd F p v) := same_new n
    rcases get_set1 e1 with ⟨rfl, rfl, _⟩ | ⟨n1, e1⟩
    · rw [hσ] at e2; cases e2
      exact ⟨.ref p, rfl, r⟩
    · have r := hh.at_ j sl o e1 e2
      cases sl with
      | dead => trivial
      | fz τ g => obtain ⟨v, ev, rv⟩ := r; exact ⟨v, ev, τ.mono sf rv⟩
      | ow ω2 g =>
        obtain ⟨p2, u2, e4, n2, hp2, o2⟩ := r
        subst e4
        have ne : p2 ≠ p := fun z => hh.sep i j ω ω2 f g p n1 h e1 hσ (by rw [e2, z])
        refine ⟨p2, u2, rfl, ?_, ?_, ω2.mono sf o2⟩
        · rw [upd_ne ne]; exact n2
        · rw [upd_ne ne]; exact hp2
  sep := fun j k ω1 ω2 g g' q ne e1 e2 e3 => by
    rcases get_set1 e1 with ⟨_, z, _⟩ | ⟨_, e1⟩
    · cases z
    · rcases get_set1 e2 with ⟨_, z, _⟩ | ⟨_, e2⟩
      · cases z
      · exact hh.sep j k ω1 ω2 g g' q ne e1 e2 e3
end
section
variable {K : PySem.W.Frag} {X : Cx} {S : Type} {Δ Δ1 Δ2 : Ctx K S} {e a b tg : Expr} {pos : Pos} {τ : Ty K} {ms m1 m2 : List Nat} {cs c1 c2 : List (S → Prop)} {ta tb : TE} {k : Nat}
theorem walks_mp {F0 F1 : Hp} {d : Addr} {o : Obj} {kvs : List (Key × V)} {xs : List (Int × τ.α)} (h : F0 d = some (.frz o (.dK kvs))) (hk : KVs τ F1 kvs xs) (z : xs.length ≤ sizeLine) : Walks K (Itk d o kvs) F0 (tInt K) (xs.map (·.1)) :=
  walks_keys h hk.keys (by rw [List.length_map]; exact z)
/-- for k in d -/
theorem DI.mp {f : S → List (Int × τ.α)} (he : DX K X Δ e (tMpL τ) ms cs Δ1 f ta) : DI K X Δ tg e (tInt K) ms cs Δ1 (fun s => (f s).map (·.1)) (iKeys ta) := by
  obtain ⟨d1, p, r⟩ := he
  refine ⟨d1, pi_keys p, fun s F H σ hh sm hc R q => r s F H σ hh sm hc _ fun v F1 H1 g1 hh1 ⟨d, o, kvs, ev, hd, hk, hz⟩ => ?_⟩
  exact ⟨d, o, ev, .inl ⟨kvs, g1.fh _ _ hd, q _ F1 H1 g1 hh1 (walks_mp hd hk hz)⟩⟩
end
end Dx

/-! Dx, part p: sorted lists of tuples of plain data. -/
namespace L2
open PySem PySem.Spec PyProof PyProof.Rows
open PySem.W (AllAlike Sortable dataLe EachIs)
section
variable {X : Cx}
end
end L2
namespace Dx
open PySem PySem.Spec PyProof PyProof.Rows L2
open PySem.W (AllAlike Sortable dataLe)
section
variable {K : PySem.W.Frag} {X : Cx} {S : Type} {Δ Δ1 Δ2 : Ctx K S} {e : Expr} {pos px : Pos} {τ L : Ty K} {ms : List Nat} {c1 : List (S → Prop)} {ta : TE} {k : Nat}
end
end Dx

/-! Dx, part q: sorted(dict of ints). -/
namespace L2
open PySem PySem.Spec PyProof PyProof.Rows
section
variable {P : Program} {w : World} {A : Around} {E : Value → Shared → Prop} {s : Shared}
end
end L2
namespace L2
open PySem PySem.Spec PyProof PyProof.Rows
section
variable {X : Cx}
end
end L2
namespace Dx
open PySem PySem.Spec PyProof PyProof.Rows L2
section
variable {K : PySem.W.Frag} {X : Cx} {S : Type} {Δ Δ1 Δ2 : Ctx K S} {e : Expr} {pos px : Pos} {ms : List Nat} {c1 : List (S → Prop)} {ta : TE}
end
end Dx

/-! Dx, part r: dict comprehensions with values, d.get(k, x), sorted(dict). -/
namespace Dx
open PySem PySem.Spec PyProof PyProof.Rows L2
section
variable {K : PySem.W.Frag} {X : Cx} {S R : Type} {Δ Δ1 Δ2 Δ3 : Ctx K S} {st : Stmt} {e a b c d f tg iter kx vx : Expr} {es ifs : List Expr} {pos px p' apos cpos : Pos} {τ τe τ1 τ2 L : Ty K} {ω ω1 ω2 : OTy K} {mus ms m1 m2 m3 is vs : List Nat} {c1 c2 c3 cs : List (S → Prop)} {ta tb tc tk te tx : TE} {tt : TT} {tl : TA} {i j k : Nat} {x y : Str}
end
end Dx

/-! Dx, part s: lists of one's own within a list of one's own, made, changed and handed back in one block. -/
namespace Dx
open PySem PySem.Spec PyProof PyProof.Rows L2
section
variable {K : PySem.W.Frag}
/-- rows of one's own: a list of lists, all of them new since H0 -/
structure RowsOk (τ : Ty K) (H0 F H : Hp) (D : Addr) (as : List Addr) (rows : List (List τ.α)) : Prop where
  top : H D = some (.lst (as.map V.ref))
  nD : F D = none
  oD : H0 D = none
  len : as.length = rows.length
  nd : as.Nodup
  dn : D ∉ as
  row : ∀ (k : Nat) (a : Addr), as[k]? = some a → F a = none ∧ H0 a = none ∧ ∃ vs xs, H a = some (.lst vs) ∧ rows[k]? = some xs ∧ Paired (τ.rep F) vs xs ∧ xs.length ≤ sizeLine
theorem gr_out {F H F' H' : Hp} {a : Addr} {o : HO} (g : Gr No F H F' H') (n : F a = none) (e : H a = some o) : F' a = none ∧ H' a = some o := by
  refine ⟨?_, g.same _ _ e⟩
  cases z : F' a with
  | none => rfl
  | some u =>
    rcases g.fresh a u z with w | w
    · rw [n] at w; cases w
    · rw [e] at w; cases w
theorem RowsOk.grow {τ : Ty K} {H0 F H F' H' : Hp} {D : Addr} {as : List Addr} {rows : List (List τ.α)} (r : RowsOk τ H0 F H D as rows) (g : Gr No F H F' H') : RowsOk τ H0 F' H' D as rows where
  top := (gr_out g r.nD r.top).2
  nD := (gr_out g r.nD r.top).1
  oD := r.oD
  len := r.len
  nd := r.nd
  dn := r.dn
  row := fun k a e => by
    obtain ⟨n, o, vs, xs, h1, h2, h3, h4⟩ := r.row k a e
    obtain ⟨n', e'⟩ := gr_out g n h1
    exact ⟨n', o, vs, xs, e', h2, paired_mono (fun _ _ q => τ.mono g.ff q) h3, h4⟩
theorem RowsOk.add {τ : Ty K} {H0 F H : Hp} {D p : Addr} {as : List Addr} {rows : List (List τ.α)} {vs : List V} {xs : List τ.α} (r : RowsOk τ H0 F H D as rows) (hp : H p = some (.lst vs)) (hD : p ≠ D) (ha : p ∉ as) (n : F p = none) (o : H0 p = none) (pr : Paired (τ.rep F) vs xs) (z : xs.length ≤ sizeLine) :
    RowsOk τ H0 F (upd H D (.lst (as.map V.ref ++ [V.ref p]))) D (as ++ [p]) (rows ++ [xs]) where
  top := by rw [upd_same, List.map_append]; rfl
  nD := r.nD
  oD := r.oD
  len := by rw [List.length_append, List.length_append, r.len]; rfl
  nd := List.nodup_append.mpr ⟨r.nd, List.nodup_cons.mpr ⟨List.not_mem_nil, List.nodup_nil⟩, fun a m b m' e => by
    rw [List.mem_singleton] at m'
    exact ha (by rw [← m', ← e]; exact m)⟩
  dn := fun h => (List.mem_append.mp h).elim r.dn fun h => hD (List.mem_singleton.mp h).symm
  row := fun k a e => by
    by_cases hk : k < as.length
    · rw [List.getElem?_append_left hk] at e
      obtain ⟨n', o', vs', xs', h1, h2, h3, h4⟩ := r.row k a e
      refine ⟨n', o', vs', xs', ?_, ?_, h3, h4⟩
      · rw [upd_ne (fun z => r.dn (by rw [← z]; exact List.mem_of_getElem? e))]; exact h1
      · rw [List.getElem?_append_left (by rw [← r.len]; exact hk)]; exact h2
    · rw [List.getElem?_append_right (by omega)] at e
      have hk2 : k - as.length = 0 := by
        have := (List.getElem?_eq_some_iff.mp e).1
        simp at this
        omega
      rw [hk2] at e
      cases e
      refine ⟨n, o, vs, xs, by rw [upd_ne hD]; exact hp, ?_, pr, z⟩
      rw [List.getElem?_append_right (by rw [← r.len]; omega), ← r.len, hk2]
      rfl
/-- the rows are frozen: a list of one's own of lists that stay -/
theorem paired_of {α β : Type} {R : α → β → Prop} : ∀ {xs : List α} {ys : List β}, xs.length = ys.length → (∀ (k : Nat) (x : α), xs[k]? = some x → ∃ y, ys[k]? = some y ∧ R x y) → Paired R xs ys
  | [], [], _, _ => .nil
  | [], _ :: _, h, _ => by cases h
  | _ :: _, [], h, _ => by cases h
  | x :: xs, y :: ys, h, q => by
    obtain ⟨y', e, r⟩ := q 0 x rfl
    cases e
    exact .cons r (paired_of (by simpa using h) fun k x' e => q (k + 1) x' e)
theorem RowsOk.done {τ : Ty K} {H0 F0 F H : Hp} {D : Addr} {as : List Addr} {rows : List (List τ.α)} (r : RowsOk τ H0 F H D as rows) (g : Gr No F0 H0 F H) :
    ∃ F1, Gr No F0 H0 F1 H ∧ F1 D = none ∧ Paired ((tList τ).rep F1) (as.map V.ref) rows := by
  have h1 : Same F (fun b => if b ∈ as then H b else F b) := fun b o e => by
    by_cases h : b ∈ as
    · obtain ⟨k, hk⟩ := List.getElem?_of_mem h
      rw [(r.row k b hk).1] at e; cases e
    · simp only [if_neg h]; exact e
  refine ⟨fun b => if b ∈ as then H b else F b, gr_mk g.same (g.ff.trans h1) (fun b o e => ?_) (fun b o e => ?_), ?_, ?_⟩
  · by_cases h : b ∈ as
    · simp only [if_pos h] at e; exact e
    · simp only [if_neg h] at e; exact g.fh _ _ e
  · by_cases h : b ∈ as
    · obtain ⟨k, hk⟩ := List.getElem?_of_mem h
      exact .inr (r.row k b hk).2.1
    · simp only [if_neg h] at e; exact g.fresh b o e
  · simp only [if_neg r.dn]; exact r.nD
  · refine paired_of (by rw [List.length_map]; exact r.len) fun k x e => ?_
    rw [List.getElem?_map] at e
    obtain ⟨a, ea, ex⟩ := Option.map_eq_some_iff.mp e
    obtain ⟨_, _, vs, xs, q1, q2, q3, q4⟩ := r.row k a ea
    refine ⟨xs, q2, a, vs, ex.symm, ?_, paired_mono (fun _ _ q => τ.mono h1 q) q3, q4⟩
    simp only [if_pos (List.mem_of_getElem? ea)]; exact q1
end
section
variable {K : PySem.W.Frag} {X : Cx} {S : Type} {Δ Δ1 Δ2 : Ctx K S} {tg iter elt : Expr} {τ τ1 : Ty K} {ms is vs : List Nat} {c1 c2 c3 cs : List (S → Prop)}
end
section
variable {K : PySem.W.Frag} {X : Cx} {S R : Type} {fm : Fm K R} {Δ : Ctx K S} {tst tg iter tg2 iter2 ee ep : Expr} {τ τ1 : Ty K} {is1 is2 : List Nat} {c0 c1 c2 : List (S → Prop)} {px p1 p2 p3 p4 p5 p6 lpos spos apos cpos epos fpos rpos : Pos} {x : Str} {i : Nat}
end
end Dx

/-! Dx, part t: the sum of lists of lists. -/
namespace Dx
open PySem PySem.Spec PyProof PyProof.Rows L2
open Sem (wp)
section
variable {prog : Program} {w : World} {A : Around} {R : Result → Shared → Prop}
end
section
variable {prog : Program} {w : World} {A : Around} {E : Value → Shared → Prop} {s : Shared}
end
section
variable {X : Cx} {K : PySem.W.Frag} {S : Type} {Δ Δ1 : Ctx K S} {a : Expr} {pos px p1 : Pos} {τ : Ty K} {ms : List Nat} {c1 : List (S → Prop)} {ta : TE}
theorem foldl_len : ∀ (vss : List (List V)) (zs : List V), (vss.foldl (· ++ ·) zs).length = zs.length + (vss.map List.length).sum
  | [], zs => by simp
  | v :: vss, zs => by
    rw [List.foldl_cons, foldl_len vss, List.length_append, List.map_cons, List.sum_cons]; omega
end
end Dx

/-! Dx, part u: tuples of any length, more. -/
namespace Dx
open PySem PySem.Spec PyProof PyProof.Rows L2
section
variable {K : PySem.W.Frag} {X : Cx} {S : Type} {Δ Δ1 Δ2 : Ctx K S} {e a b : Expr} {pos px apos : Pos} {τ : Ty K} {ms m1 m2 : List Nat} {c1 c2 : List (S → Prop)} {ta tb : TE} {i : Nat} {x : Str} {k : Nat}
open PySem.W (AllAlike Sortable dataLe)
end
end Dx

/-! Dx, part v: rows of one's own that grow at their end. -/
namespace Dx
open PySem PySem.Spec PyProof PyProof.Rows L2
section
variable {K : PySem.W.Frag} {X : Cx} {S : Type} {Δ : Ctx K S} {τ : Ty K}
end
def blkC {α : Type} (b : Bool) (rows : List (List α)) (ct : Prop) : Prop := ct ∧ (b = true → IxOk rows (-1) ∧ (ixI [] rows (-1)).length < sizeLine) ∧ (b = false → rows.length < sizeLine)
section
variable {K : PySem.W.Frag} {X : Cx} {S R : Type} {fm : Fm K R} {Δ : Ctx K S} {tst tg iter e1 e2 ep : Expr} {τ : Ty K} {is : List Nat} {c1 : List (S → Prop)} {px p1 p2 p3 p4 p5 p6 p7 spos apos cpos epos apos2 cpos2 epos2 ipos fpos rpos : Pos} {x : Str} {i : Nat}
end
end Dx

/-! Dx, part w: sorted lists of lists. -/
namespace Dx
open PySem PySem.Spec PyProof PyProof.Rows L2
open PySem.W (AllAlike Sortable dataLe)
section
variable {K : PySem.W.Frag} {X : Cx} {S : Type} {Δ Δ1 Δ2 : Ctx K S} {e a b : Expr} {pos px apos : Pos} {τ : Ty K} {ms m1 m2 : List Nat} {c1 c2 : List (S → Prop)} {ta tb : TE} {i : Nat} {x : Str} {k : Nat}
end
end Dx

/-! Dx, part x: data of any kind whose lists and tuples are plain (so that it can be taken back to its type); the empty dict among them. -/
namespace Dx
open PySem PySem.Spec PyProof PyProof.Rows L2
mutual
inductive Ex (F : Hp) : V → PyData → Prop
  | non : Ex F .non .none
  | bl (b : Bool) : Ex F (.bl b) (.bool b)
  | int (i : Int) : Ex F (.int i) (.int i)
  | str (x : Str) : PyData.strOk x = true → Ex F (.str x) (.str x)
  | lst {a : Addr} {xs : List V} {ds : List PyData} : F a = some (.lst xs) → ds.length ≤ sizeLine → ExAll F xs ds → Ex F (.ref a) (.list ds)
  | tup {a : Addr} {xs : List V} {ds : List PyData} : F a = some (.tup xs) → ds.length ≤ sizeLine → ExAll F xs ds → Ex F (.ref a) (.tuple ds)
  | dct {a : Addr} : F a = some (.dK []) → Ex F (.ref a) (.dict [])
inductive ExAll (F : Hp) : List V → List PyData → Prop
  | nil : ExAll F [] []
  | cons {v : V} {vs : List V} {d : PyData} {ds : List PyData} : Ex F v d → ExAll F vs ds → ExAll F (v :: vs) (d :: ds)
end
mutual
theorem ex_mono {F F' : Hp} (h : Same F F') : ∀ (d : PyData) (v : V), Ex F v d → Ex F' v d
  | .none, _, r => by cases r; exact .non
  | .bool b, _, r => by cases r; exact .bl b
  | .int b, _, r => by cases r; exact .int b
  | .str b, _, r => by cases r; exact .str b (by assumption)
  | .list ds, _, r => by
    cases r with
    | lst s z a => exact .lst (h _ _ s) z (exAll_mono h ds _ a)
  | .tuple ds, _, r => by
    cases r with
    | tup s z a => exact .tup (h _ _ s) z (exAll_mono h ds _ a)
  | .dict kvs, _, r => by
    cases r with
    | dct e => exact .dct (h _ _ e)
theorem exAll_mono {F F' : Hp} (h : Same F F') : ∀ (ds : List PyData) (vs : List V), ExAll F vs ds → ExAll F' vs ds
  | [], _, r => by cases r; exact .nil
  | d :: ds, _, r => by
    cases r with
    | cons a b => exact .cons (ex_mono h d _ a) (exAll_mono h ds _ b)
end
section
variable {K : PySem.W.Frag}
/-- plain data of any kind, at most n deep -/
abbrev tEx (K : PySem.W.Frag) (n : Nat) : Ty K := ⟨PyData, fun F v d => Ex F v d ∧ d.depth ≤ n, fun h r => ⟨ex_mono h _ _ r.1, r.2⟩⟩
/-- the data of a type, told exactly -/
structure DatX {K : PySem.W.Frag} (τ : Ty K) (d : DF τ.α) : Prop where
  dat : Dat τ d
  ex : ∀ {F : Hp} {v : V} {x : τ.α}, τ.rep F v x → Ex F v (d.toD x)
/-! #### back to a type -/
/-- a thing is what a type tells -/
structure BackD {K : PySem.W.Frag} (τ : Ty K) (n : Nat) (ok : PyData → Bool) (g : PyData → τ.α) : Prop where
  back : ∀ {F : Hp} {v : V} {d : PyData}, Ex F v d → d.depth ≤ n → ok d = true → τ.rep F v (g d)
/-! #### what is asked of a thing -/
end
/-! #### repr of a thing -/
section
variable {X : Cx} {pins : List (Addr × Obj)} {σ : L2.St} {H : Hp} {s : Shared}
end
section
variable {K : PySem.W.Frag} {X : Cx} {S R : Type} {Δ Δ1 Δ2 : Ctx K S} {e a b : Expr} {es : List Expr} {pos px p2 p' : Pos} {τ : Ty K} {ms m1 m2 : List Nat} {c1 c2 cs : List (S → Prop)} {ta tb : TE} {i n m k : Nat}
/-- taken back to a type, under what was tested ahead -/
theorem DX.back {ok : PyData → Bool} {g : PyData → τ.α} {f : S → PyData} (h : BackD τ n ok g) (he : DX K X Δ e (tEx K n) ms cs Δ1 f ta) : DX K X Δ e τ ms (cs ++ [fun s => ok (f s) = true]) Δ1 (fun s => g (f s)) ta :=
  ⟨he.1, he.2.1, fun s F H σ hh sm hc Q q => by
    obtain ⟨h1, h2⟩ := conj_app hc
    exact he.2.2 s F H σ hh sm h1 Q fun v F1 H1 g hh1 r => q v F1 H1 g hh1 (h.back r.1 r.2 h2.1)⟩
end
section
variable {K : PySem.W.Frag} {X : Cx} {S R : Type} {Δ Δ1 Δ2 : Ctx K S} {e a b : Expr} {es : List Expr} {pos px p2 p' : Pos} {τ : Ty K} {ms m1 m2 : List Nat} {c1 c2 cs : List (S → Prop)} {ta tb : TE} {i n m k : Nat}
end
/-! #### d in (x, y): texts; a text in a list of texts -/
section
variable {K : PySem.W.Frag} {X : Cx} {S R : Type} {Δ Δ1 Δ2 : Ctx K S} {e a b : Expr} {pos : Pos} {m1 m2 : List Nat} {c1 c2 : List (S → Prop)} {ta tb : TE} {n k : Nat} {f : S → PyData} {g : S → Str × Str}
end
/-! #### a text in a list of texts -/
section
variable {K : PySem.W.Frag} {X : Cx} {S R : Type} {Δ Δ1 Δ2 : Ctx K S} {e a b : Expr} {pos : Pos} {m1 m2 : List Nat} {c1 c2 : List (S → Prop)} {ta tb : TE} {n k : Nat} {f : S → Str} {g : S → List Str}
end
end Dx

/-! Dx, part y: x[a], x[b] = e1, e2. -/
namespace Dx
open PySem PySem.Spec PyProof PyProof.Rows L2
section
variable {K : PySem.W.Frag} {X : Cx} {S R : Type} {Δ Δ1 Δ2 : Ctx K S} {e a b b2 : Expr} {pos px px2 p2 p' p3 : Pos} {τ : Ty K} {ms mus : List Nat} {c1 c2 c3 : List (S → Prop)} {ta tb tb2 : TE} {i : Nat} {x : Str}
end
end Dx

/-! Dx, part z: what raises, try .. except X as e, calls in an except suite. -/
namespace Dx
open PySem PySem.Spec PyProof PyProof.Rows L2
open PySem.HandSPX in
section
variable {K : PySem.W.Frag} {X : Cx} {S R : Type} {fm : Fm K R} {Δ Δ1 Δ2 Δa Δb Δj : Ctx K S} {st : Stmt} {sts rest : List Stmt} {e a b c : Expr} {es : List Expr} {pos p' apos : Pos} {τ : Ty K} {mus ms m1 m2 : List Nat} {c1 c2 cs : List (S → Prop)} {tx : TT} {q q1 q2 : S → Prop} {C : Value}
/-- a statement that raises, an instance of C; the slots stand as before -/
def RT (K : PySem.W.Frag) (X : Cx) (Δ : Ctx K S) (st : Stmt) (q : S → Prop) (C : Value) : Prop :=
  ∀ W, L2N.Takes X W → ∃ t : TS, PS X st t ∧ ∀ s F H σ, Holds Δ s F H σ → Same F H → q s → (∀ F1 H1, Gr No F H F1 H1 → W C none σ H1) → ∀ D, t D σ H
/-- a block that raises -/
def RS (K : PySem.W.Frag) (X : Cx) (Δ : Ctx K S) (sts : List Stmt) (q : S → Prop) (C : Value) : Prop :=
  ∀ W, L2N.Takes X W → ∃ t : TS, PSs X sts t ∧ ∀ s F H σ, Holds Δ s F H σ → Same F H → q s → (∀ σ1 F1 H1, GrR Δ σ F H F1 H1 → W C none σ1 H1) → ∀ D, t D σ H
/-- an expression that raises -/
def RX (K : PySem.W.Frag) (X : Cx) (Δ : Ctx K S) (e : Expr) (q : S → Prop) (C : Value) : Prop :=
  ∀ W, L2N.Takes X W → ∃ t : TE, PE X e t ∧ ∀ s F H σ, Holds Δ s F H σ → Same F H → q s → (∀ F1 H1, Gr No F H F1 H1 → W C none σ H1) → ∀ Q, t σ H Q
theorem pssF {X : Cx} {sts : List Stmt} : PSs X sts (fun _ _ _ => False) := ⟨fun _ _ _ _ _ _ h => h.elim⟩
theorem psOr {X : Cx} {st : Stmt} {t u : TS} (h : PS X st t) (k : PS X st u) : PS X st (fun D σ H => t D σ H ∨ u D σ H) :=
  ⟨fun pins s σ H D I z => z.elim (fun z => h.run pins s σ H D I z) fun z => k.run pins s σ H D I z⟩
theorem pssOr {X : Cx} {sts : List Stmt} {t u : TS} (h : PSs X sts t) (k : PSs X sts u) : PSs X sts (fun D σ H => t D σ H ∨ u D σ H) :=
  ⟨fun pins s σ H D I z => z.elim (fun z => h.run pins s σ H D I z) fun z => k.run pins s σ H D I z⟩
theorem grR_of {s : S} {F H F1 H1 : Hp} {σ : L2.St} (hh : Holds Δ s F H σ) (g : Gr No F H F1 H1) : GrR Δ σ F H F1 H1 :=
  (GrS.ofGr (mus := []) (ms := []) Diff.refl hh (fun _ h => nomatch h) (by rw [msAt_nil]; exact g)).toGrR
theorem RT.or (h : RT K X Δ st q1 C) (k : RT K X Δ st q2 C) : RT K X Δ st (fun s => q1 s ∨ q2 s) C := fun W tk => by
  obtain ⟨t, p, r⟩ := h W tk
  obtain ⟨u, p2, r2⟩ := k W tk
  exact ⟨_, psOr p p2, fun s F H σ hh sm hq w D => hq.elim (fun z => .inl (r s F H σ hh sm z w D)) fun z => .inr (r2 s F H σ hh sm z w D)⟩
theorem RS.or (h : RS K X Δ sts q1 C) (k : RS K X Δ sts q2 C) : RS K X Δ sts (fun s => q1 s ∨ q2 s) C := fun W tk => by
  obtain ⟨t, p, r⟩ := h W tk
  obtain ⟨u, p2, r2⟩ := k W tk
  exact ⟨_, pssOr p p2, fun s F H σ hh sm hq w D => hq.elim (fun z => .inl (r s F H σ hh sm z w D)) fun z => .inr (r2 s F H σ hh sm z w D)⟩
theorem RT.imp (h : RT K X Δ st q C) (k : ∀ s, q1 s → q s) : RT K X Δ st q1 C := fun W tk => by
  obtain ⟨t, p, r⟩ := h W tk
  exact ⟨t, p, fun s F H σ hh sm hq w D => r s F H σ hh sm (k s hq) w D⟩
theorem RS.imp (h : RS K X Δ sts q C) (k : ∀ s, q1 s → q s) : RS K X Δ sts q1 C := fun W tk => by
  obtain ⟨t, p, r⟩ := h W tk
  exact ⟨t, p, fun s F H σ hh sm hq w D => r s F H σ hh sm (k s hq) w D⟩
/-- the first statement raises -/
theorem RS.head (h : RT K X Δ st q C) : RS K X Δ (st :: rest) q C := fun W tk => by
  obtain ⟨t, p, r⟩ := h W tk
  exact ⟨_, pss_cons p pssF, fun s F H σ hh sm hq w D => r s F H σ hh sm hq (fun F1 H1 g => w σ F1 H1 (grR_of hh g)) _⟩
/-- what comes ahead goes on -/
theorem RS.cons (h1 : DS K X.nox mus Δ st c1 Δ1) (h2 : RS K X Δ1 sts q C) : RS K X Δ (st :: sts) (fun s => Conj c1 s ∧ q s) C := fun W tk => by
  obtain ⟨t1, p1, r1⟩ := h1
  obtain ⟨t2, p2, r2⟩ := h2 W tk
  have p1' : PS X st t1 := ⟨fun pins s σ H D I z => wpAny_mono (p1.run pins s σ H D (I.wish _) z) (fun f s1 q => by
    cases f with
    | next => obtain ⟨σ', H', J, q⟩ := q; exact ⟨σ', H', J.wish _, q⟩
    | ret u => obtain ⟨v, σ', H', J, r, q⟩ := q; exact ⟨v, σ', H', J.wish _, r, q⟩
    | brk => obtain ⟨σ', H', J, q⟩ := q; exact ⟨σ', H', J.wish _, q⟩
    | cont => obtain ⟨σ', H', J, q⟩ := q; exact ⟨σ', H', J.wish _, q⟩) fun e s1 z => z.elim⟩
  refine ⟨_, pss_cons p1' p2, fun s F H σ hh sm hq w D => ?_⟩
  exact r1 s F H σ hh sm hq.1 _ fun σ1 F1 H1 g hh1 => r2 s F1 H1 σ1 hh1 g.fh hq.2 (fun σ2 F2 H2 g2 => w σ2 F2 H2 (GrR.after g g2)) D
/-- raise X('m') -/
theorem RT.raise {Ca : Addr} {bmB : List Value} {B newId initId : String} {x m : Str} {j : Nat} {p p2 p3 : Pos} (F : ExcBaseFacts B newId initId bmB) (k1 : PySem.W.excIn X.K Ca bmB newId = true) (gC : X.mg x = some (.ref Ca)) (kC : PySem.W.keepIn X.K (.ref Ca) = true)
    (h1 : PySem.W.subIn X.K (.ref Ca) (.type "BaseException") = some true) (h2 : PySem.W.typeIn X.K (.ref Ca) = some (.type "type")) (hc : X.calm = true := by rfl) (hg : Gl X x := by rfl) (hdb : (x == ("__debug__" : Str)) = false := by decide) :
    RT K X Δ (.Raise (some (.Call (.Name x p) [.Constant (.str m) j p2] [] p3)) none pos) (fun _ => True) (.ref Ca) := fun W tk =>
  ⟨_, L2N.ps_raise hc tk (L2N.pmk_own F k1 gC kC (raises_own h1 h2) hg hdb), fun s F H σ hh sm _ w D => w F H (Gr.refl sm)⟩
theorem RT.expr (he : RX K X Δ e q C) (hs : swapsWith e none pos.line X.env = pure false := by rfl) : RT K X Δ (.Expr e pos) q C := fun W tk => by
  obtain ⟨t, p, r⟩ := he W tk
  exact ⟨_, ps_expr p hs, fun s F H σ hh sm hq w D => r s F H σ hh sm hq w _⟩
def SpR {R : Type} (fm : Fm K R) (q : HP fm.ps → Prop) (C : Value) : Sp := fun vs H _ E => ∃ (F : Hp) (s : HP fm.ps), Holds (ctx0 fm.ps) s F H (vs.map some) ∧ Same F H ∧ q s ∧ ∀ F1 H1, Gr No F H F1 H1 → E C none H1
theorem SpR.len {R : Type} {fm : Fm K R} {q : HP fm.ps → Prop} {C : Value} (vs : List V) (H : Hp) (Q : VK) (E : XK) (h : SpR fm q C vs H Q E) : vs.length = fm.ps.length := by
  obtain ⟨F, s, h, _⟩ := h
  have := h.len
  rw [List.length_map, ctx0_length] at this
  exact this
theorem FnG.or {P : Program} {w : World} {mg : Str → Option Value} {base : Heap} {CX : CXT} {k : Nat} {f : Addr} {fd : FuncData} {ps : List Str} {sp1 sp2 : Sp} (h : FnG P w K mg base CX k f fd ps sp1) (g : FnG P w K mg base CX k f fd ps sp2) : FnG P w K mg base CX k f fd ps (fun vs H Q E => sp1 vs H Q E ∨ sp2 vs H Q E) :=
  ⟨fun vs H Q E z => z.elim (h.len vs H Q E) (g.len vs H Q E), fun A outer s H args us vs Q E hr e0 hb rv z => z.elim (h.run A outer s H args us vs Q E hr e0 hb rv) (g.run A outer s H args us vs Q E hr e0 hb rv)⟩
/-- the call of a def that may raise, at the slots -/
theorem pe_callgS {CX : CXT} {k : Nat} {f : Addr} {fd : FuncData} {ps : List Str} {sp : Sp} {E : L2.St → XK} {x : Str} {p : Pos} {t : TA} (G : FnG X.prog X.w X.K X.mg X.base CX k f fd ps sp) (hr : RoomG k X.A) (hg : Gl X x) (hm : X.mg x = some (.ref f)) (hk : PySem.W.keepIn X.K (.ref f) = true) (hb : Binds X.K fd ps []) (hx : ∀ σ, PassesAt CX X σ (E σ))
    (ha : PA X (e :: es) t) (hdb : (x == ("__debug__" : Str)) = false := by decide) (he : starEach (e :: es) X.env = (false, eval e X.env) :: starEach es X.env := by rfl) (hpl : (backTo pos (starEach es X.env)).any (·.1) = false := by rfl) :
    PE X (.Call (.Name x p) (e :: es) [] pos) (tCallS sp E t) := by
  refine ⟨fun pins s σ H Q I h => wpAny_Call_Name_kw (ld_glob I hg hm ?_ hdb)⟩
  refine PySem.W.callWith_K (h₀ := X.base) I.ok.mod.kin hk (thn (ha.run pos pins s σ H _ I h) fun us s1 ⟨vs, H1, I1, r, q⟩ => ⟨I1.kIn, ?_⟩) he hpl
  have hl : (us ++ ([] : List Value)).length = ps.length := by rw [List.append_nil, ← r.length]; exact G.len _ _ _ _ q
  have hbd := hb s1 us I1.kIn hl
  rw [List.append_nil] at hbd
  refine wpAny_call (codeAny_mono (G.run X.A X.stack s1 H1 ⟨us, []⟩ us vs Q (E σ) hr I1.env0 hbd r q) fun res s' hq => ?_)
  cases res with
  | error e => exact hx σ pins H1 s1 e s' I1 hq
  | ok fl => cases fl with
    | ret u => exact I1.after hq
    | next => exact hq.elim
    | brk => exact hq.elim
    | cont => exact hq.elim
theorem RX.call {x : Str} {k : Nat} {f : Addr} {fd : FuncData} {ps : List Str} {R' : Type} {fm : Fm K R'} {qf : HP fm.ps → Prop} {as : List (AK K S)} {g : S → HP fm.ps} {px : Pos} {t : TA} (G : FnG X.prog X.w X.K X.mg X.base (L2N.CX X.prog X.w) k f fd ps (SpR fm qf C)) (hr : RoomG k X.A) (hm : X.mg x = some (.ref f)) (hk : PySem.W.keepIn X.K (.ref f) = true) (hb : Binds X.K fd ps [])
    (ha : DA K X Δ (e :: es) [] c1 Δ as t) (har : Ar Δ as fm.ps g) (hnd : (lent as).Nodup) (hg : Gl X x := by rfl) (hdb : (x == ("__debug__" : Str)) = false := by decide) (he : starEach (e :: es) X.env = (false, eval e X.env) :: starEach es X.env := by rfl) (hpl : (backTo pos (starEach es X.env)).any (·.1) = false := by rfl) :
    RX K X Δ (.Call (.Name x px) (e :: es) [] pos) (fun s => Conj c1 s ∧ qf (g s)) C := fun W tk => by
  obtain ⟨d1, pa, ra⟩ := ha
  refine ⟨_, pe_callgS G hr hg hm hk hb (L2N.passAt tk) pa hdb he hpl, fun s F H σ hh sm hq w Q => ?_⟩
  refine ra s F H σ hh sm hq.1 _ fun vs F1 H1 g1 hh1 r1 => ?_
  rw [msAt_nil] at g1
  obtain ⟨w1, _⟩ := har.holds hh1 g1.fh r1 hnd
  exact ⟨F1, g s, w1, g1.fh, hq.2, fun F2 H2 g2 => w F2 H2 (g1.trans g2)⟩
end
section
variable {K : PySem.W.Frag} {X : Cx} {S R : Type} {fm : Fm K R} {Δ Δ0 Δ1 Δ2 Δa Δb Δj : Ctx K S} {st : Stmt} {sts rest : List Stmt} {e a b c : Expr} {es : List Expr} {pos p' apos : Pos} {τ : Ty K} {mus ms m1 m2 : List Nat} {c0 c1 c2 cs : List (S → Prop)} {tx : TT} {ta : TE} {q q1 q2 : S → Prop} {C : Value}
/-- x = e, where e raises -/
theorem RT.asg {x : Str} {i : Nat} {px : Pos} (he : RX K X Δ e q C) (hN : X.N.Nodup) (hi : X.N[i]? = some x) (hx : Loc X.env.scope x) (hf : X.fn x = true ∨ X.env.scope.names.lookup x = some .local := by first | exact .inl rfl | exact .inr rfl | assumption) (hs : swapsWithSole [.Name x px] e pos.line X.env = pure false := by rfl) (hw : swappedStores [.Name x px] e X.env = pure none := by rfl)
    (h1 : (assignEach [.Name x px] X.env).map (·.2) = [assign (.Name x px) X.env] := by rfl) : RT K X Δ (.Assign [.Name x px] e pos) q C := fun W tk => by
  obtain ⟨t, p, r⟩ := he W tk
  exact ⟨_, ps_asg p (pg_name hN hi hx hf) hs hw h1, fun s F H σ hh sm hq w D => r s F H σ hh sm hq w _⟩
theorem GrS.put {T : Type} {Δ : Ctx K S} {Δ1 : Ctx K T} {σ σ1 : L2.St} {F H F1 H1 : Hp} {i : Nat} {o : Option V} {f : T → τ.α} (g : GrS mus Δ σ Δ1 σ1 F H F1 H1) (hi : i ∉ mus) : GrS mus Δ σ (Δ1.set i (.fz τ f)) (σ1.set i o) F H F1 H1 :=
  { g.toGrR with
    own := fun a ⟨j, ω, f, e1, e2⟩ => by
      rcases get_set1 e1 with ⟨_, z, _⟩ | ⟨n, e1⟩
      · cases z
      · rw [List.getElem?_set_ne n] at e2
        exact g.own a ⟨j, ω, f, e1, e2⟩
    mu := fun k h => by rw [List.getElem?_set_ne (fun (e : i = k) => hi (by rw [e]; exact h))]; exact g.mu k h }
/-! #### where an exception is handled -/
/-- what a def promises that is called with the handled exception, an instance of the class at D -/
structure FnE (P : Program) (w : World) (K : PySem.W.Frag) (mg : Str → Option Value) (base : Heap) (D : Addr) (k : Nat) (f : Addr) (fd : FuncData) (ps : List Str) (sp : Addr → Sp) : Prop where
  len : ∀ a vs H Q E, sp a vs H Q E → vs.length = ps.length
  run : ∀ (A : Around) (outer : List Env) (s : Shared) (H : Hp) (args : Args) (us : List Value) (vs : List V) (Q : VK) (E : XK) (p : Addr × Obj), L2H.RoomH k A → L2H.Hot1 A p → Zc (.ref D) none p.2 → L2H.PinOk outer H s p → Env0 P w K mg base A outer s H → BindsTo s fd args (ps.zip us) → Vals vs us → sp p.1 vs H Q E →
    codeAny (model P w) A (.call (.ref f) args) (CR CX0 outer P w H s Q E) s
theorem FnE.mono {P : Program} {w : World} {mg : Str → Option Value} {base : Heap} {D : Addr} {j k : Nat} {f : Addr} {fd : FuncData} {ps : List Str} {sp : Addr → Sp} (F : FnE P w K mg base D j f fd ps sp) (h : j ≤ k) : FnE P w K mg base D k f fd ps sp :=
  ⟨F.len, fun A outer s H args us vs Q E p hr => F.run A outer s H args us vs Q E p (hr.mono h)⟩
end
section
variable {K : PySem.W.Frag} {X : Cx} {S R : Type} {Δ : Ctx K S} {e : Expr} {es : List Expr} {pos : Pos} {τ : Ty K} {c1 : List (S → Prop)}
end
section
variable {K : PySem.W.Frag} {X : Cx} {S : Type} {Δ Δ1 : Ctx K S} {e : Expr} {pos px apos : Pos} {ms : List Nat} {c1 : List (S → Prop)} {ta : TE} {i k : Nat} {x : Str}
end
section
variable {K : PySem.W.Frag} {X : Cx} {S : Type} {Δ Δ1 Δ2 : Ctx K S} {e a b : Expr} {pos px apos : Pos} {τ : Ty K} {ms m1 m2 : List Nat} {c1 c2 : List (S → Prop)} {ta tb : TE} {i : Nat} {x : Str} {k : Nat} {d : DF τ.α}
end
theorem roomG_un {k : Nat} {A : Around} (hr : RoomG k A) : A.units + 65 < cLine := by have := hr.rm.un; omega
section
variable {K : PySem.W.Frag} {X : Cx} {S : Type} {Δ Δ1 Δ2 : Ctx K S} {a b : Expr} {pos : Pos} {τ : Ty K} {m1 m2 : List Nat} {c1 c2 : List (S → Prop)} {ta tb : TE} {d : DF τ.α} {ga gb : S → τ.α}
end
/-! #### a try whose body may raise errors of more than one class -/
section
variable {K : PySem.W.Frag} {X : Cx} {S : Type} {Δ Δ0 Δ1 Δa Δb Δj : Ctx K S} {st : Stmt} {mus : List Nat} {c0 c1 ca cb : List (S → Prop)} {q : S → Prop}
/-- one way that the body of a try goes, its clause being 'except x as n' (n in slot i) -/
def TA1 (K : PySem.W.Frag) (X : Cx) (mus : List Nat) (Δ : Ctx K S) (st : Stmt) (i : Nat) (cb : Value) (suite : List Stmt) (cs : List (S → Prop)) (Δ1 : Ctx K S) : Prop :=
  ∀ s F H σ, Holds Δ s F H σ → Same F H → Conj cs s → ∀ D : Ends, (∀ σ1 F1 H1, GrS mus Δ σ Δ1 σ1 F H F1 H1 → Holds Δ1 s F1 H1 σ1 → D.nx σ1 H1) →
    ∀ pn xe, L2N.Takes (X.tr pn xe) (wAs X.K cb i (fun a cls d D σ H => ∀ oe pn, L2N.Zn cls d oe → (∃ vs, oe.data = .fields vs) → ∃ t, PSs (X.suite a ((a, oe) :: pn)) suite t ∧ t D σ H) (fun _ _ _ _ => False) D) → ∃ t, PSs (X.tr pn xe) [st] t ∧ t D σ H
theorem TA1.go {i : Nat} {cv : Value} {suite : List Stmt} (hn : ∀ (pn : List (Addr × Obj)) (xe : Value → Shared → Prop), DN K (X.tr pn xe).nox mus Δ [st] c0 Δ0) : TA1 K X mus Δ st i cv suite c0 Δ0 := fun s F H σ hh sm hc D qq pn xe tk => by
  obtain ⟨t, p, r⟩ := hn pn xe
  exact ⟨t, p.nox, r s F H σ hh sm hc D qq⟩
theorem TA1.or {i : Nat} {cv : Value} {suite : List Stmt} {h : S → Bool} (ha : TA1 K X mus Δ st i cv suite ca Δa) (hb : TA1 K X mus Δ st i cv suite cb Δb) (hj : Join h Δa Δb Δj) : TA1 K X mus Δ st i cv suite (guardT h ca ++ guardF h cb) Δj := fun s F H σ hh sm hc D qq pn xe tk => by
  obtain ⟨k1, k2⟩ := conj_app hc
  cases e : h s with
  | true => exact ha s F H σ hh sm (guardT_conj e k1) D (fun σ1 F1 H1 g hh1 => qq σ1 F1 H1 (g.as (hj.yes e)) ((hj.yes e).holds hh1)) pn xe tk
  | false => exact hb s F H σ hh sm (guardF_conj e k2) D (fun σ1 F1 H1 g hh1 => qq σ1 F1 H1 (g.as (hj.no e)) ((hj.no e).holds hh1)) pn xe tk
end
/-! #### the call of a def that is taken out of a list: [f, g][i](..) -/
section
variable {K : PySem.W.Frag} {X : Cx} {S R : Type} {Δ Δa Δb Δj : Ctx K S} {st : Stmt} {e fe : Expr} {es : List Expr} {pos pos2 px : Pos} {mus : List Nat} {c0 c1 ca cb : List (S → Prop)} {tf : TE} {t : TA} {x : Str}
/-- one of the defs fs, by its place -/
def tFn (K : PySem.W.Frag) (fs : List Addr) : Ty K := ⟨Nat, fun _ v i => ∃ a, fs[i]? = some a ∧ v = .ref a, fun _ h => h⟩
theorem DX.fn {fs : List Addr} {f : Addr} (i : Nat) (hi : fs[i]? = some f) (hm : X.mg x = some (.ref f)) (hg : Gl X x := by rfl) (hd : (x == ("__debug__" : Str)) = false := by decide) : DX K X Δ (.Name x px) (tFn K fs) [] [] Δ (fun _ => i) (tC (.ref f)) :=
  ⟨Diff.refl, pe_glob hg hm rfl hd, fun s F H σ hh sm _ Q q => q _ F H (by rw [msAt_nil]; exact Gr.refl sm) hh ⟨f, hi, rfl⟩⟩
end
end Dx

/-! Dy, part a: tuples of any length joined and sliced. -/
namespace Dx
open PySem PySem.Spec PyProof PyProof.Rows L2
section
variable {K : PySem.W.Frag} {X : Cx} {S : Type} {Δ Δ1 Δ2 Δ3 : Ctx K S} {a b : Expr} {pos p2 : Pos} {τ : Ty K} {m1 m2 ms : List Nat} {c1 c2 c3 : List (S → Prop)} {ta tb : TE}
end
section
variable {K : PySem.W.Frag} {X : Cx} {S R : Type} {fm : Fm K R} {Δ Δ0 Δ1 Δ2 : Ctx K S} {e a b c tg iter : Expr} {es body elts : List Expr} {pos p' : Pos} {τ τ1 : Ty K} {ms m1 m2 : List Nat} {c1 c2 cs : List (S → Prop)} {ta : TE} {q : S → Prop} {C : Value}
end
end Dx

/-! Dx, part yb: comprehensions where an exception is handled. -/
namespace Dx
open PySem PySem.Spec PyProof PyProof.Rows L2
open PySem.HandSPX in
section
variable {prog : Program} {w : World} {A : Around} {E : Value → Shared → Prop} {s : Shared}
/-- a list's iterator at its end, an exception being handled -/
theorem list_end_hot {it l x1 : Addr} {i : Nat} {ys : Array Value} {Q : Option Value → Shared → Prop} (hot : HotX.HotAt A x1 s.heap) (st : s.heap.IsListIter it l i) (hl : s.heap.IsList l ys) (hx : ys[i]? = none)
    (hQ : ∀ h', (∀ b o, b ≠ it → s.heap.get? b = some o → h'.get? b = some o) → Q none { s with heap := h' }) (ne : x1 ≠ it) : wpAny (model prog w) A (pyNext (.ref it)) Q E s := by
  obtain ⟨oi, gi, ci, di⟩ := id st
  obtain ⟨ol, gl, _, nl, dl⟩ := hl
  obtain ⟨hh, o1, v1, h1, d1, c1⟩ := hot
  unfold pyNext
  refine wpAny_bind (wpAny_attempt (wpAny_callSpecial?_slot (name := Str.ofString "__next__") st.typeIs slot_listiter_next (wpAny_call_entry slot_listiter_next st.typeIs entry_listiter_next ?_ (args_listiter_next _))))
  show wpAny _ _ (field (.ref it) 0 >>= _) _ _ s
  refine wpAny_bind (wpAny_field gi di (x := .ref l) rfl ?_); show wpAny _ _ (if (Value.ref l == Value.none) = true then _ else _) _ _ s
  rw [if_neg (by intro z; exact Bool.false_ne_true z)]; show wpAny _ _ (field (.ref it) 1 >>= _) _ _ s
  refine wpAny_bind (wpAny_field gi di (x := .int i 0) rfl ?_); show wpAny _ _ (seqItems? (.ref l) >>= _) _ _ s
  refine wpAny_bind (wpAny_seqItems gl dl ?_); simp only [Int.toNat_natCast, hx]
  have h1u : ∀ (f : Obj → Obj), ((s.heap.update it f).get? x1) = some o1 := fun f => by rw [Heap.get?_update_other _ _ (fun z => ne z.symm)]; exact h1
  refine wpAny_bind (wpAny_rule (wpAny_bind (wpAny_setField gi di (by simp) ?_))); show wpAny _ _ (newExc (.type "StopIteration") [] >>= _) _ _ _
  refine wpAny_bind ?_; simp only [newExc, newTuple]
  refine wpAny_bind (wpAny_newObj_type ?_ (by size_fits)); refine wpAny_bind (m := firstArgMember _ _) (wpAny_of_eq (a := Value.none) (by first | rfl | (simp only [firstArgMember]; rfl)) ?_)
  refine wpAny_newObj_type ?_ (by size_fits)
  refine HotX.raiseNew_hot ⟨hh, o1, v1, Heap.get?_push_of_some _ (Heap.get?_push_of_some _ (h1u _)), d1, c1⟩ (Nat.ne_of_lt (Heap.lt_size (Heap.get?_push_of_some _ (h1u _)))) (Heap.get?_push_size _ rfl) rfl (by first | (simp; done) | (simp; omega)) ?_
  refine wpAny_bind (wpAny_isInstance (T := "StopIteration") (b := true) ⟨_, Heap.get?_update_self _ (Heap.get?_push_size _ rfl) rfl, rfl⟩ isSubtype_stop ?_); refine wpAny_pure (hQ _ fun b o nb e => ?_)
  have eu : ∀ (f : Obj → Obj), ((s.heap.update it f).get? b) = some o := fun f => by rw [Heap.get?_update_other _ _ (fun z => nb z.symm)]; exact e
  rw [Heap.get?_update_other _ _ (Nat.ne_of_gt (Heap.lt_size (Heap.get?_push_of_some _ (eu _))))]; exact Heap.get?_push_of_some _ (Heap.get?_push_of_some _ (eu _))
end
theorem turn_listH {P : Program} {w : World} {K : PySem.W.Frag} {tg : Expr} (a it : Addr) : L2H.TurnH P w K tg (Itl K a) [it] it (fun i h => h.IsListIter it a i) where
  mem := List.mem_singleton.mpr rfl
  obj := fun i h st b hb => by
    rw [List.mem_singleton.mp hb]
    obtain ⟨o, e, c, d⟩ := st
    exact ⟨o, e, fun v z => by rw [d] at z; cases z⟩
  keep := fun i h h' st k => st.at fun o e => k it (List.mem_singleton.mpr rfl) o e
  item := by
    intro X hP hw hK _ i pins s σ H E I hf st hs
    subst hP; subst hw; subst hK
    obtain ⟨xs, x, hq, hx⟩ := hs
    obtain ⟨vs, rv, lv, _⟩ := I.list hq
    obtain ⟨u, hu, ru⟩ := rv.get hx
    obtain ⟨f0, f1, f2, f3, f4, f5⟩ := hf it (List.mem_singleton.mpr rfl)
    refine wpAny_pyNext_list_item st lv.isList (x := u) (by simpa using hu) fun h' stn sb => ?_
    obtain ⟨o, e, c, d⟩ := id stn
    have J : Inv X pins σ H { s with heap := h' } := I.turned (t' := s.toks) (fun b o nb z => (sb.2 b nb).trans z) f0 f1 f3 f4 f5
    refine ⟨u, rfl, go_of (s := { s with heap := h' }) e c d (by decide) ⟨x, H, J, ru, ⟨rfl, fun ys hy => ?_⟩, stn, fun b hb => (hf b hb).1⟩⟩
    rw [I.list_inj hy hq]; exact hx
  done := by
    intro X hP hw hK hot i pins s σ H E I hf st hs
    subst hP; subst hw; subst hK
    obtain ⟨xs, hq, hx⟩ := hs
    obtain ⟨vs, rv, lv, _⟩ := I.list hq
    obtain ⟨f0, f1, f2, f3, f4, f5⟩ := hf it (List.mem_singleton.mpr rfl)
    have len := rv.length
    obtain ⟨p, ⟨hh, v1, e1, c1⟩, hp⟩ := hot
    have P1 := I.pin p (List.mem_append_left _ hp)
    exact list_end_hot ⟨hh, p.2, v1, P1.1, e1, c1⟩ st lv.isList (by simp; omega) (fun h' k => ⟨rfl, I.turned (t' := s.toks) k f0 f1 f3 f4 f5⟩) (f5 p (List.mem_append_left _ hp))
  self := fun _ _ _ _ _ st h => wpAny_pyIter_listiter st h
section
variable {X : Cx} {tg : Expr}
theorem pi_listH {l : Expr} {tl : TE} (hl : PE X l tl) : L2H.PIH X tg l (iList X.K tl) := by
  refine ⟨fun pins s σ H R I h => thn (hl.run pins s σ H _ I h) fun v s1 ⟨x, H1, J, rx, a, ex, ⟨xs, hq⟩, hR⟩ => ?_⟩
  subst ex
  cases rx
  obtain ⟨vs, rv, lv, _⟩ := J.list hq
  refine wpAny_pyIter_list lv.isList ?_
  refine ⟨s1.heap.objs.size, [s1.heap.objs.size], _, _, H1, rfl, J.kept (t' := s1.toks) fun b o e => Heap.get?_push_of_some _ e, turn_listH a _, ⟨_, Heap.get?_push_size _ rfl, rfl, rfl⟩, fun b hb => ?_, hR⟩
  rw [List.mem_singleton.mp hb]
  exact J.fpOk (Nat.le_refl _) (J.hok.fresh (Nat.le_refl _))
end
section
variable {K : PySem.W.Frag} {X : Cx} {S R : Type} {fm : Fm K R} {Δ Δ0 Δ1 Δ2 Δa Δb Δj : Ctx K S} {st : Stmt} {sts rest : List Stmt} {e a b c : Expr} {es : List Expr} {pos p' apos : Pos} {τ : Ty K} {mus ms m1 m2 : List Nat} {c0 c1 c2 cs : List (S → Prop)} {tx : TT} {ta : TE} {q q1 q2 : S → Prop} {C : Value}
end
section
variable {K : PySem.W.Frag} {X : Cx} {S : Type} {Δ Δ1 : Ctx K S} {tg e iter elt : Expr} {pos : Pos} {τ τe L : Ty K} {ms is : List Nat} {c1 : List (S → Prop)} {ta te : TE} {tt : TT} {ifs : List Expr}
/-- what is walked, an exception being handled -/
def DIH {S : Type} (K : PySem.W.Frag) (X : Cx) (Δ : Ctx K S) (tg iter : Expr) (τ : Ty K) (ms : List Nat) (cs : List (S → Prop)) (Δ1 : Ctx K S) (f : S → List τ.α) (wi : TI) : Prop :=
  Diff ms Δ Δ1 ∧ L2H.PIH X tg iter wi ∧ ∀ s F H σ, Holds Δ s F H σ → Same F H → Conj cs s → ∀ R : It → Hp → Prop, (∀ J F' H', Gr (MsAt ms σ) F H F' H' → Holds Δ1 s F' H' σ → Walks K J F' τ (f s) → R J H') → wi σ H R
theorem DIH.list {to : L.α → List τ.α} {f : S → L.α} (hl : LL L τ to) (he : DX K X Δ e L ms c1 Δ1 f ta) (hK : X.K = K := by rfl) : DIH K X Δ tg e τ ms c1 Δ1 (fun s => to (f s)) (iList K ta) := by
  obtain ⟨q1, _, q3⟩ := DI.list (tg := tg) hl he hK
  subst hK
  exact ⟨q1, pi_listH he.2.1, q3⟩
theorem DIH.range1 {f : S → Int} {px : Pos} (hm : X.mg "range" = none) (he : DX K X Δ e (tInt K) ms c1 Δ1 f ta) (hg : Gl X "range" := by rfl) (hs : starEach [e] X.env = [(false, eval e X.env)] := by rfl) (hs2 : starEach [e] X.env = (false, eval e X.env) :: starEach [] X.env := by rfl) :
    DIH K X Δ tg (.Call (.Name "range" px) [e] [] pos) (tInt K) ms (c1 ++ [fun s => RgOk (f s)]) Δ1 (fun s => rangeL (f s)) (iRng1 (tCons ta tNil)) := by
  obtain ⟨q1, _, q3⟩ := DI.range1 (tg := tg) (pos := pos) (px := px) hm he hg hs hs2
  exact ⟨q1, L2H.pi_range1H hg hm (pa_cons he.2.1 pa_nil hs2) hs, q3⟩
end
/-! #### a try whose except suite returns -/
section
variable {K : PySem.W.Frag} {X : Cx} {S R : Type} {fm : Fm K R} {Δ Δ1 : Ctx K S} {st : Stmt} {c0 c1 ca cb : List (S → Prop)} {q : S → Prop} {ra rb : S → Option R}
/-- one way that the body goes; r: what is returned by it -/
def TAR (K : PySem.W.Frag) (X : Cx) {R : Type} (fm : Fm K R) (Δ : Ctx K S) (st : Stmt) (i : Nat) (cb : Value) (suite : List Stmt) (cs : List (S → Prop)) (r : S → Option R) (Δ1 : Ctx K S) : Prop :=
  ∀ s F H σ, Holds Δ s F H σ → Same F H → Conj cs s → ∀ D : Ends, (∀ x, r s = some x → Ret fm Δ σ F H x D.rt) → (r s = none → ∀ σ1 F1 H1, GrS (musOf 0 fm.ps) Δ σ Δ1 σ1 F H F1 H1 → Holds Δ1 s F1 H1 σ1 → D.nx σ1 H1) →
    ∀ pn xe, L2N.Takes (X.tr pn xe) (wAs X.K cb i (fun a cls d D σ H => ∀ oe pn, L2N.Zn cls d oe → (∃ vs, oe.data = .fields vs) → ∃ t, PSs (X.suite a ((a, oe) :: pn)) suite t ∧ t D σ H) (fun _ _ _ _ => False) D) → ∃ t, PSs (X.tr pn xe) [st] t ∧ t D σ H
theorem TAR.go {i : Nat} {cv : Value} {suite : List Stmt} (hn : ∀ (pn : List (Addr × Obj)) (xe : Value → Shared → Prop), DN K (X.tr pn xe).nox (musOf 0 fm.ps) Δ [st] c0 Δ1) : TAR K X fm Δ st i cv suite c0 (fun _ => none) Δ1 := fun s F H σ hh sm hc D _ qq pn xe tk => by
  obtain ⟨t, p, r⟩ := hn pn xe
  exact ⟨t, p.nox, r s F H σ hh sm hc D fun σ1 F1 H1 g hh1 => qq rfl σ1 F1 H1 g hh1⟩
theorem TAR.or {i : Nat} {cv : Value} {suite : List Stmt} {h : S → Bool} (ha : TAR K X fm Δ st i cv suite ca ra Δ1) (hb : TAR K X fm Δ st i cv suite cb rb Δ1) : TAR K X fm Δ st i cv suite (guardT h ca ++ guardF h cb) (fun s => if h s = true then ra s else rb s) Δ1 := fun s F H σ hh sm hc D q1 q2 pn xe tk => by
  obtain ⟨k1, k2⟩ := conj_app hc
  cases e : h s with
  | true =>
    dsimp only at q1 q2
    rw [e, if_pos rfl] at q1 q2
    exact ha s F H σ hh sm (guardT_conj e k1) D q1 q2 pn xe tk
  | false =>
    dsimp only at q1 q2
    rw [e, if_neg Bool.false_ne_true] at q1 q2
    exact hb s F H σ hh sm (guardF_conj e k2) D q1 q2 pn xe tk
end
/-! #### f(k = v, ..) that raises -/
section
variable {K : PySem.W.Frag} {X : Cx} {S R' : Type} {Δ Δ1 : Ctx K S} {x : Str} {px pos : Pos} {k : Nat} {f : Addr} {fd : FuncData} {ps kn : List Str} {is : List Nat} {kws : List Keyword} {c1 : List (S → Prop)} {as as' : List (AK K S)} {tk : TA} {fm : Fm K R'} {qf : HP fm.ps → Prop} {g : S → HP fm.ps} {C : Value}
def tCallS0 (sp : Sp) (kn : List Str) (is : List Nat) (E : L2.St → XK) (tk : TA) : TE := fun σ H Q => tk σ H fun zs H2 => zs.length = kn.length ∧ sp (pickV is zs) H2 Q (E σ)
theorem pe_callSK0 {CX : CXT} {E : L2.St → XK} {sp : Sp} (G : FnG X.prog X.w X.K X.mg X.base CX k f fd ps sp) (hr : RoomG k X.A) (hg : Gl X x) (hm : X.mg x = some (.ref f)) (hk : PySem.W.keepIn X.K (.ref f) = true) (hb : BindsK fd ps 0 kn is) (hi : ∀ i ∈ is, i < 0 + kn.length) (hkw : L2.PK X kws tk) (hx : ∀ σ, PassesAt CX X σ (E σ))
    (hall : (backToKw pos (keywordEach kws X.env)).all (·.1.isSome) = true := by rfl) (hks : (backToKw pos (keywordEach kws X.env)).filterMap (·.1) = kn := by rfl)
    (hdb : (x == ("__debug__" : Str)) = false := by decide) (hpl : ((backTo pos (starEach [] X.env)).any (·.1) || (backToKw pos (keywordEach kws X.env)).any (·.1.isNone)) = false := by rfl) :
    PE X (.Call (.Name x px) [] kws pos) (tCallS0 sp kn is E tk) := by
  refine ⟨fun pins s σ H Q I h => wpAny_Call_Name_kw (ld_glob I hg hm ?_ hdb)⟩
  refine PySem.W.callWith_KW0 (h₀ := X.base) I.ok.mod.kin hk hall (thn (hkw.run pos pins s σ H _ I h) fun ws s2 ⟨zs, H2, I2, rz, q1, q2⟩ => ⟨I2.kIn, ?_⟩) hpl
  rw [hks]
  have r2 := vals_getD rz is fun i q => by rw [q1]; have := hi i q; omega
  have hbd := hb s2 [] ws rfl (by rw [← rz.length]; exact q1)
  rw [List.nil_append] at hbd
  refine wpAny_call (codeAny_mono (G.run X.A X.stack s2 H2 ⟨[], kn.zip ws⟩ _ _ Q (E σ) hr I2.env0 hbd r2 q2) fun res s' hq => ?_)
  cases res with
  | error e => exact hx σ pins H2 s2 e s' I2 hq
  | ok fl => cases fl with
    | ret u => exact I2.after hq
    | next => exact hq.elim
    | brk => exact hq.elim
    | cont => exact hq.elim
theorem RX.callK0 (G : FnG X.prog X.w X.K X.mg X.base (L2N.CX X.prog X.w) k f fd ps (SpR fm qf C)) (hr : RoomG k X.A) (hm : X.mg x = some (.ref f)) (hk : PySem.W.keepIn X.K (.ref f) = true) (hb : BindsK fd ps 0 kn is) (hi : ∀ i ∈ is, i < 0 + kn.length)
    (ha : DKs K X Δ kws [] c1 Δ as tk) (hka : as.length = kn.length) (hpk : Pick as is as') (har : Ar Δ as' fm.ps g) (hnl : lent as' = []) (hg : Gl X x := by rfl)
    (hall : (backToKw pos (keywordEach kws X.env)).all (·.1.isSome) = true := by rfl) (hks : (backToKw pos (keywordEach kws X.env)).filterMap (·.1) = kn := by rfl)
    (hdb : (x == ("__debug__" : Str)) = false := by decide) (hpl : ((backTo pos (starEach [] X.env)).any (·.1) || (backToKw pos (keywordEach kws X.env)).any (·.1.isNone)) = false := by rfl) :
    RX K X Δ (.Call (.Name x px) [] kws pos) (fun s => Conj c1 s ∧ qf (g s)) C := fun W tkW => by
  obtain ⟨d1, pa, ra⟩ := ha
  refine ⟨_, pe_callSK0 G hr hg hm hk hb hi pa (L2N.passAt tkW) hall hks hdb hpl, fun s F H σ hh sm hq w Q => ?_⟩
  refine ra s F H σ hh sm hq.1 _ fun vs F1 H1 g1 hh1 r1 => ⟨by rw [akAll_len r1, hka], ?_⟩
  rw [msAt_nil] at g1
  obtain ⟨w1, _⟩ := har.holds hh1 g1.fh (hpk.all r1) (by rw [hnl]; exact List.nodup_nil)
  exact ⟨F1, g s, w1, g1.fh, hq.2, fun F2 H2 g2 => w F2 H2 (g1.trans g2)⟩
end
end Dx

/-! Dx, part yc: a, b, c = x, y, z with an own list in the middle. -/
namespace Dx
open PySem PySem.Spec PyProof PyProof.Rows L2
section
variable {K : PySem.W.Frag} {X : Cx} {S : Type} {Δ Δ1 Δ2 Δ3 : Ctx K S} {mus m1 m2 m3 : List Nat} {τ τ3 : Ty K} {ω : OTy K} {c1 c2 c3 : List (S → Prop)} {a b c : Expr} {ta tb tc : TE} {x y z : Str} {i j l : Nat} {pos : Pos}
end
end Dx

/-! Dx, part yd: errors that hold an index: made by a class with its own __init__, raised, caught, read. -/
namespace Dx
open PySem PySem.Spec PyProof PyProof.Rows L2
/-! #### the own __init__ -/
section
variable {X : Cx} {b : Str} {e : Expr} {es : List Expr} {ta : TA} {p p' p1 p2 pos : Pos}
end
/-- what an own __init__ promises that keeps its argument as the field f -/
def spI (K : PySem.W.Frag) (f : Str) : Sp := fun vs H Q _ => ∃ (a C : Addr) (v : V), vs = [.ref a, v] ∧ OexC K C ∧ PySem.W.findIn K (.ref C) f = some none ∧ H a = some (exo a C none) ∧
  ∀ dx, H dx = none → dx ≠ a → Q .non (upd (upd H dx (exd dx [(f, v)])) a (exo a C (some dx)))
/-! #### made and raised -/
section
variable {X : Cx} {e : Expr} {es : List Expr} {ta : TA} {p pos : Pos}
theorem mk_endN {pins : List (Addr × Obj)} {σ : L2.St} {H1 H2 : Hp} {Q : XK} {hp hp2 h2 : Heap} {g1 g2 : Array GenState} {d1 d2 : Drawn} {t1 t2 : Nat} {os1 os2 : OsState} {a C d : Addr} {fs : List (Str × V)} (T : Raises X (.ref C)) (I1 : Inv X pins σ H1 ⟨hp, g1, d1, t1, os1⟩)
    (ha : hp.objs.size ≤ a) (k : ∀ b o, hp.get? b = some o → hp2.get? b = some o) (un : Un (frs X.stack) [] (upd H1 a (exo a C none)) H2 hp2 h2) (hok : HOk X.prog X.w H2 h2) (ho : os2 = os1) (hb : AllBare g2)
    (ea : H2 a = some (exo a C (some d))) (ed : H2 d = some (exd d fs)) (hd1 : H1 d = none) (q : Q (.ref C) (some d) (upd (del H2 a) d (.xd fs))) : L2N.MkP X pins σ Q (.ref a) ⟨h2, g2, d2, t2, os2⟩ := by
  obtain ⟨t0, G, J, kG, ge, hoe, na⟩ := mk_end0 (d2 := d2) (t2 := t2) I1 ha k un hok ho hb ea ed hd1
  exact ⟨a, _, _, ⟨G, g2, d2, t2, os2⟩, _, .ref C, some d, rfl, J, kG, ge, hoe, ⟨rfl, rfl, fun vs e => by cases e; rfl⟩, rfl, rfl, na, rfl, hb, T, q⟩
/-- C(e, ..) of a class with its own __init__ -/
theorem pmk_oexN {CX : CXT} {x : Str} {C fI : Addr} {k : Nat} {fd : FuncData} {ps : List Str} {sp : Sp} (T : OexC X.K C) (iC : PySem.W.findIn X.K (.ref C) "__init__" = some (some (.ref fI))) (tI : PySem.W.typeIn X.K (.ref fI) = some (.type "function"))
    (F1 : FnOk X.prog X.w X.K X.mg X.base CX k fI fd ps sp) (hr : Room (k + 1) X.A) (hb : Binds X.K fd ps []) (hx : Passes CX X (fun _ _ _ => False)) (hg : Gl X x) (hm : X.mg x = some (.ref C)) (ha : PA X (e :: es) ta)
    (hdb : (x == ("__debug__" : Str)) = false := by decide) (he : starEach (e :: es) X.env = (false, eval e X.env) :: starEach es X.env := by rfl) (hpl : (backTo pos (starEach es X.env)).any (·.1) = false := by rfl) :
    L2N.PMk X (.Call (.Name x p) (e :: es) [] pos) (tMkO C sp [] ta) := by
  intro pins s σ H Q I h
  obtain ⟨nm, q, N, bs, bm, sn, sub, ab, col, dd, k0, k1, k2, k3, k5, hC, hbm⟩ := T.cls
  refine wpAny_Call_Name_kw (ld_glob I hg hm ?_ hdb)
  refine PySem.W.callWith_K (h₀ := X.base) I.ok.mod.kin T.kC (thn (ha.run pos pins s σ H _ I h) fun us s1 ⟨vs, H1, I1, r1, hz, q1⟩ => ⟨I1.kIn, ?_⟩) he hpl
  show wpAny _ _ (call (.ref C) us) _ _ _
  obtain ⟨hp, g, dr, tk, os⟩ := s1
  have hsz : hp.objs.size ≤ hp.objs.size + 1 := Nat.le_succ _
  have hq := q1 (hp.objs.size + 1) (I1.hok.fresh hsz)
  rw [List.append_nil] at hq
  have kk : ∀ b o, hp.get? b = some o → ((hp.push (PySem.W.kdv_tup us)).push (PySem.HandSPX.excO C hp.objs.size)).get? b = some o := fun b o e => Heap.get?_push_of_some _ (Heap.get?_push_of_some _ e)
  have hget : ((hp.push (PySem.W.kdv_tup us)).push (PySem.HandSPX.excO C hp.objs.size)).get? (hp.objs.size + 1) = some (PySem.HandSPX.excO C hp.objs.size) := by heap_get
  have I2 : Inv X pins σ (upd H1 (hp.objs.size + 1) (exo (hp.objs.size + 1) C none)) ⟨(hp.push (PySem.W.kdv_tup us)).push (PySem.HandSPX.excO C hp.objs.size), g, dr, tk, os⟩ :=
    I1.laid (t' := tk) (a := hp.objs.size + 1) (o := exo (hp.objs.size + 1) C none) (h' := (hp.push (PySem.W.kdv_tup us)).push (PySem.HandSPX.excO C hp.objs.size)) kk hsz (exo_ok hget)
  have r2 : Vals (V.ref (hp.objs.size + 1) :: vs) (Value.ref (hp.objs.size + 1) :: us) := .cons rfl r1
  have hl : (Value.ref (hp.objs.size + 1) :: us).length = ps.length := by
    have e := r2.length
    rw [F1.len _ _ _ _ hq] at e
    exact e.symm
  have hbd := hb ⟨(hp.push (PySem.W.kdv_tup us)).push (PySem.HandSPX.excO C hp.objs.size), g, dr, tk, os⟩ (Value.ref (hp.objs.size + 1) :: us) I2.kIn (by rw [List.append_nil]; exact hl)
  rw [List.append_nil] at hbd
  have hus : us.length ≤ sizeLine := by
    rw [← Paired.length r1, sizeLine_eq]
    omega
  refine wpAny_call (PySem.HandSPX.call_own F.excBase_ValueError (fun Y => PySem.HandSPX.refsVE_contains Y bm hbm) (I1.kIn _ _ hC) (PySem.W.looks_findIn I1.kIn iC) (fun self => PySem.W.bind_fn I1.kIn self tI) hus
    (codeAny_mono (F1.run _ X.stack _ _ ⟨Value.ref (hp.objs.size + 1) :: us, []⟩ (Value.ref (hp.objs.size + 1) :: us) _ _ (fun _ _ _ => False) (hr.make C us []) (I2.env0.make C us []) hbd r2 hq) fun r s' hq' => ?_))
  cases r with
  | error er => exact hx pins σ _ _ er s' I2 hq'
  | ok fl =>
    cases fl with
    | ret u =>
      obtain ⟨v, H2, os2, bare2, un2, hok2, rv, ev, d, fs, ea, ed, hd1, q2⟩ := hq'
      subst ev
      obtain ⟨h2, g2, d2, t2, os'⟩ := s'
      exact ⟨rv, mk_endN (raises_own T.exC T.tyC) I1 hsz kk un2 hok2 os2 bare2 ea ed hd1 q2⟩
    | next => exact False.elim hq'
    | brk => exact False.elim hq'
    | cont => exact False.elim hq'
end
/-- an index, as a value -/
def ixV : Option Int → V
  | none => .non
  | some i => .int i
theorem ixV_of {K : PySem.W.Frag} {F : Hp} {v : V} {o : Option Int} (r : (tOpt (tInt K)).rep F v o) : v = ixV o := by
  cases o with
  | none => exact r
  | some i => exact r.2
/-- the dict at d holds the index o -/
def Xd (F : Hp) (d : Addr) (o : Option Int) : Prop := ∃ fs : List (Str × V), F d = some (.xd fs) ∧ fs.lookup ("index" : Str) = some (ixV o)
def Xi (F : Hp) (d : Option Addr) (o : Option Int) : Prop := ∃ dd, d = some dd ∧ Xd F dd o
theorem Xd.mono {F F' : Hp} {d : Addr} {o : Option Int} (h : Same F F') (x : Xd F d o) : Xd F' d o := x.imp fun fs q => ⟨h _ _ q.1, q.2⟩
theorem Xi.mono {F F' : Hp} {d : Option Addr} {o : Option Int} (h : Same F F') (x : Xi F d o) : Xi F' d o := x.imp fun dd q => ⟨q.1, q.2.mono h⟩
section
variable {K : PySem.W.Frag} {X : Cx} {S R : Type} {fm : Fm K R} {Δ Δ1 Δ2 Δa Δb Δj : Ctx K S} {st : Stmt} {sts rest : List Stmt} {e a b c : Expr} {es : List Expr} {pos p' apos : Pos} {τ : Ty K} {mus ms m1 m2 : List Nat} {c1 c2 cs : List (S → Prop)} {tx : TT} {ta : TE} {q q1 q2 : S → Option Int → Prop} {C : Value}
/-- a statement that raises an error with an index -/
def RTi (K : PySem.W.Frag) (X : Cx) (Δ : Ctx K S) (st : Stmt) (q : S → Option Int → Prop) (C : Value) : Prop :=
  ∀ W, L2N.Takes X W → ∃ t : TS, PS X st t ∧ ∀ s o F H σ, Holds Δ s F H σ → Same F H → q s o → (∀ d F1 H1, Gr No F H F1 H1 → Xi F1 d o → W C d σ H1) → ∀ D, t D σ H
def RSi (K : PySem.W.Frag) (X : Cx) (Δ : Ctx K S) (sts : List Stmt) (q : S → Option Int → Prop) (C : Value) : Prop :=
  ∀ W, L2N.Takes X W → ∃ t : TS, PSs X sts t ∧ ∀ s o F H σ, Holds Δ s F H σ → Same F H → q s o → (∀ d σ1 F1 H1, GrR Δ σ F H F1 H1 → Xi F1 d o → W C d σ1 H1) → ∀ D, t D σ H
def RXi (K : PySem.W.Frag) (X : Cx) (Δ : Ctx K S) (e : Expr) (q : S → Option Int → Prop) (C : Value) : Prop :=
  ∀ W, L2N.Takes X W → ∃ t : TE, PE X e t ∧ ∀ s o F H σ, Holds Δ s F H σ → Same F H → q s o → (∀ d F1 H1, Gr No F H F1 H1 → Xi F1 d o → W C d σ H1) → ∀ Q, t σ H Q
theorem RTi.or (h : RTi K X Δ st q1 C) (k : RTi K X Δ st q2 C) : RTi K X Δ st (fun s o => q1 s o ∨ q2 s o) C := fun W tk => by
  obtain ⟨t, p, r⟩ := h W tk
  obtain ⟨u, p2, r2⟩ := k W tk
  exact ⟨_, psOr p p2, fun s o F H σ hh sm hq w D => hq.elim (fun z => .inl (r s o F H σ hh sm z w D)) fun z => .inr (r2 s o F H σ hh sm z w D)⟩
theorem RSi.or (h : RSi K X Δ sts q1 C) (k : RSi K X Δ sts q2 C) : RSi K X Δ sts (fun s o => q1 s o ∨ q2 s o) C := fun W tk => by
  obtain ⟨t, p, r⟩ := h W tk
  obtain ⟨u, p2, r2⟩ := k W tk
  exact ⟨_, pssOr p p2, fun s o F H σ hh sm hq w D => hq.elim (fun z => .inl (r s o F H σ hh sm z w D)) fun z => .inr (r2 s o F H σ hh sm z w D)⟩
theorem RTi.imp (h : RTi K X Δ st q C) (k : ∀ s o, q1 s o → q s o) : RTi K X Δ st q1 C := fun W tk => by
  obtain ⟨t, p, r⟩ := h W tk
  exact ⟨t, p, fun s o F H σ hh sm hq w D => r s o F H σ hh sm (k s o hq) w D⟩
theorem RSi.imp (h : RSi K X Δ sts q C) (k : ∀ s o, q1 s o → q s o) : RSi K X Δ sts q1 C := fun W tk => by
  obtain ⟨t, p, r⟩ := h W tk
  exact ⟨t, p, fun s o F H σ hh sm hq w D => r s o F H σ hh sm (k s o hq) w D⟩
theorem RSi.head (h : RTi K X Δ st q C) : RSi K X Δ (st :: rest) q C := fun W tk => by
  obtain ⟨t, p, r⟩ := h W tk
  exact ⟨_, pss_cons p pssF, fun s o F H σ hh sm hq w D => r s o F H σ hh sm hq (fun d F1 H1 g => w d σ F1 H1 (grR_of hh g)) _⟩
theorem pss_nox {st : Stmt} {t : TS} (p1 : PS X.nox st t) : PS X st t := ⟨fun pins s σ H D I z => wpAny_mono (p1.run pins s σ H D (I.wish _) z) (fun f s1 q => by
    cases f with
    | next => obtain ⟨σ', H', J, q⟩ := q; exact ⟨σ', H', J.wish _, q⟩
    | ret u => obtain ⟨v, σ', H', J, r, q⟩ := q; exact ⟨v, σ', H', J.wish _, r, q⟩
    | brk => obtain ⟨σ', H', J, q⟩ := q; exact ⟨σ', H', J.wish _, q⟩
    | cont => obtain ⟨σ', H', J, q⟩ := q; exact ⟨σ', H', J.wish _, q⟩) fun e s1 z => z.elim⟩
theorem RSi.cons (h1 : DS K X.nox mus Δ st c1 Δ1) (h2 : RSi K X Δ1 sts q C) : RSi K X Δ (st :: sts) (fun s o => Conj c1 s ∧ q s o) C := fun W tk => by
  obtain ⟨t1, p1, r1⟩ := h1
  obtain ⟨t2, p2, r2⟩ := h2 W tk
  refine ⟨_, pss_cons (pss_nox p1) p2, fun s o F H σ hh sm hq w D => ?_⟩
  exact r1 s F H σ hh sm hq.1 _ fun σ1 F1 H1 g hh1 => r2 s o F1 H1 σ1 hh1 g.fh hq.2 (fun d σ2 F2 H2 g2 => w d σ2 F2 H2 (GrR.after g g2)) D
theorem RTi.expr (he : RXi K X Δ e q C) (hs : swapsWith e none pos.line X.env = pure false := by rfl) : RTi K X Δ (.Expr e pos) q C := fun W tk => by
  obtain ⟨t, p, r⟩ := he W tk
  exact ⟨_, ps_expr p hs, fun s o F H σ hh sm hq w D => r s o F H σ hh sm hq w _⟩
/-- raise C(e) -/
theorem RTi.raise {Ca fI : Addr} {k : Nat} {fd : FuncData} {ps : List Str} {x : Str} {f : S → Option Int} {p p3 : Pos} (T : OexC X.K Ca) (hno : PySem.W.findIn X.K (.ref Ca) "index" = some none) (iC : PySem.W.findIn X.K (.ref Ca) "__init__" = some (some (.ref fI))) (tI : PySem.W.typeIn X.K (.ref fI) = some (.type "function"))
    (F1 : FnOk X.prog X.w X.K X.mg X.base CX0 k fI fd ps (spI X.K "index")) (hr : Room (k + 1) X.A) (hb : Binds X.K fd ps []) (hm : X.mg x = some (.ref Ca)) (he : DX K X Δ e (tOpt (tInt K)) [] c1 Δ f ta) (hc : X.calm = true := by rfl) (hg : Gl X x := by rfl)
    (hdb : (x == ("__debug__" : Str)) = false := by decide) (hse : starEach [e] X.env = (false, eval e X.env) :: starEach [] X.env := by rfl) (hpl : (backTo p3 (starEach [] X.env)).any (·.1) = false := by rfl) :
    RTi K X Δ (.Raise (some (.Call (.Name x p) [e] [] p3)) none pos) (fun s o => Conj c1 s ∧ o = f s) (.ref Ca) := fun W tk => by
  obtain ⟨d0, p0, r0⟩ := he
  refine ⟨_, L2N.ps_raise hc tk (pmk_oexN T iC tI F1 hr hb pass0 hg hm (pa_cons p0 pa_nil hse) hdb hse hpl), fun s o F H σ hh sm hq w D => ?_⟩
  refine r0 s F H σ hh sm hq.1 _ fun v F1 H1 g1 hh1 rv => ⟨by simp, fun a na => ?_⟩
  rw [msAt_nil] at g1
  refine ⟨a, Ca, v, rfl, T, hno, upd_same, fun dx n ne => ⟨rfl, dx, [("index", v)], upd_same, ?_, ?_, ?_⟩⟩
  · rw [upd_ne ne, upd_same]
  · rwa [upd_ne ne] at n
  · have n' : H1 dx = none := by rwa [upd_ne ne] at n
    have eh : upd (del (upd (upd (upd H1 a (exo a Ca none)) dx (exd dx [("index", v)])) a (exo a Ca (some dx))) a) dx (.xd [("index", v)]) = upd H1 dx (.xd [("index", v)]) := by
      funext z
      by_cases hz : z = dx
      · rw [hz, upd_same, upd_same]
      · rw [upd_ne hz, upd_ne hz]
        by_cases ha : z = a
        · rw [ha, del_same]; exact na.symm
        · rw [del_ne ha, upd_ne ha, upd_ne hz, upd_ne ha]
    rw [eh]
    have g2 : Gr No F1 H1 (upd F1 dx (.xd [("index", v)])) (upd H1 dx (.xd [("index", v)])) := Gr.new g1.fh n'
    refine w (some dx) _ _ (g1.trans g2) ⟨dx, rfl, _, upd_same, ?_⟩
    rw [ixV_of rv, hq.2]
    rfl
/-- what a def promises that raises so -/
def SpRi {R : Type} (fm : Fm K R) (q : HP fm.ps → Option Int → Prop) (C : Value) : Sp := fun vs H _ E => ∃ (F : Hp) (s : HP fm.ps) (o : Option Int), Holds (ctx0 fm.ps) s F H (vs.map some) ∧ Same F H ∧ q s o ∧ ∀ d F1 H1, Gr No F H F1 H1 → Xi F1 d o → E C d H1
theorem SpRi.len {R : Type} {fm : Fm K R} {q : HP fm.ps → Option Int → Prop} {C : Value} (vs : List V) (H : Hp) (Q : VK) (E : XK) (h : SpRi fm q C vs H Q E) : vs.length = fm.ps.length := by
  obtain ⟨F, s, o, h, _⟩ := h
  have := h.len
  rw [List.length_map, ctx0_length] at this
  exact this
theorem RXi.call {x : Str} {k : Nat} {f : Addr} {fd : FuncData} {ps : List Str} {R' : Type} {fm : Fm K R'} {qf : HP fm.ps → Option Int → Prop} {as : List (AK K S)} {g : S → HP fm.ps} {px : Pos} {t : TA} (G : FnG X.prog X.w X.K X.mg X.base (L2N.CX X.prog X.w) k f fd ps (SpRi fm qf C)) (hr : RoomG k X.A) (hm : X.mg x = some (.ref f)) (hk : PySem.W.keepIn X.K (.ref f) = true) (hb : Binds X.K fd ps [])
    (ha : DA K X Δ (e :: es) [] c1 Δ as t) (har : Ar Δ as fm.ps g) (hnd : (lent as).Nodup) (hg : Gl X x := by rfl) (hdb : (x == ("__debug__" : Str)) = false := by decide) (he : starEach (e :: es) X.env = (false, eval e X.env) :: starEach es X.env := by rfl) (hpl : (backTo pos (starEach es X.env)).any (·.1) = false := by rfl) :
    RXi K X Δ (.Call (.Name x px) (e :: es) [] pos) (fun s o => Conj c1 s ∧ qf (g s) o) C := fun W tk => by
  obtain ⟨d1, pa, ra⟩ := ha
  refine ⟨_, pe_callgS G hr hg hm hk hb (L2N.passAt tk) pa hdb he hpl, fun s o F H σ hh sm hq w Q => ?_⟩
  refine ra s F H σ hh sm hq.1 _ fun vs F1 H1 g1 hh1 r1 => ?_
  rw [msAt_nil] at g1
  obtain ⟨w1, _⟩ := har.holds hh1 g1.fh r1 hnd
  exact ⟨F1, g s, o, w1, g1.fh, hq.2, fun d F2 H2 g2 x => w d F2 H2 (g1.trans g2) x⟩
theorem RXi.callK0 {x : Str} {px : Pos} {k : Nat} {f : Addr} {fd : FuncData} {ps kn : List Str} {is : List Nat} {kws : List Keyword} {as as' : List (AK K S)} {tk : TA} {R' : Type} {fm : Fm K R'} {qf : HP fm.ps → Option Int → Prop} {g : S → HP fm.ps} (G : FnG X.prog X.w X.K X.mg X.base (L2N.CX X.prog X.w) k f fd ps (SpRi fm qf C)) (hr : RoomG k X.A) (hm : X.mg x = some (.ref f)) (hk : PySem.W.keepIn X.K (.ref f) = true) (hb : BindsK fd ps 0 kn is) (hi : ∀ i ∈ is, i < 0 + kn.length)
    (ha : DKs K X Δ kws [] c1 Δ as tk) (hka : as.length = kn.length) (hpk : Pick as is as') (har : Ar Δ as' fm.ps g) (hnl : lent as' = []) (hg : Gl X x := by rfl)
    (hall : (backToKw pos (keywordEach kws X.env)).all (·.1.isSome) = true := by rfl) (hks : (backToKw pos (keywordEach kws X.env)).filterMap (·.1) = kn := by rfl)
    (hdb : (x == ("__debug__" : Str)) = false := by decide) (hpl : ((backTo pos (starEach [] X.env)).any (·.1) || (backToKw pos (keywordEach kws X.env)).any (·.1.isNone)) = false := by rfl) :
    RXi K X Δ (.Call (.Name x px) [] kws pos) (fun s o => Conj c1 s ∧ qf (g s) o) C := fun W tkW => by
  obtain ⟨d1, pa, ra⟩ := ha
  refine ⟨_, pe_callSK0 G hr hg hm hk hb hi pa (L2N.passAt tkW) hall hks hdb hpl, fun s o F H σ hh sm hq w Q => ?_⟩
  refine ra s F H σ hh sm hq.1 _ fun vs F1 H1 g1 hh1 r1 => ⟨by rw [akAll_len r1, hka], ?_⟩
  rw [msAt_nil] at g1
  obtain ⟨w1, _⟩ := har.holds hh1 g1.fh (hpk.all r1) (by rw [hnl]; exact List.nodup_nil)
  exact ⟨F1, g s, o, w1, g1.fh, hq.2, fun d F2 H2 g2 x => w d F2 H2 (g1.trans g2) x⟩
end
end Dx

/-! Dx, part ye: errors with an index: raised within a loop, caught, what their handling may do. -/
namespace Dx
open PySem PySem.Spec PyProof PyProof.Rows L2
section
variable {K : PySem.W.Frag} {X : Cx} {S R : Type} {fm : Fm K R} {Δ Δ0 Δ1 Δ2 Δa Δb Δj : Ctx K S} {st : Stmt} {sts rest : List Stmt} {e : Expr} {es : List Expr} {pos p' apos : Pos} {τ : Ty K} {mus ms m1 m2 : List Nat} {c0 c1 c2 cs : List (S → Prop)} {tx : TT} {ta : TE}
/-- what a def promises that is called with such a handled error -/
structure FnEi (P : Program) (w : World) (K : PySem.W.Frag) (mg : Str → Option Value) (base : Heap) (D : Addr) (k : Nat) (f : Addr) (fd : FuncData) (ps : List Str) (sp : Addr → Addr → Sp) : Prop where
  len : ∀ a d vs H Q E, sp a d vs H Q E → vs.length = ps.length
  run : ∀ (A : Around) (outer : List Env) (s : Shared) (H : Hp) (args : Args) (us : List Value) (vs : List V) (Q : VK) (E : XK) (p : Addr × Obj) (d : Addr), L2H.RoomH k A → L2H.Hot1 A p → Zc (.ref D) (some d) p.2 → L2H.PinOk outer H s p → Env0 P w K mg base A outer s H → BindsTo s fd args (ps.zip us) → Vals vs us → sp p.1 d vs H Q E →
    codeAny (model P w) A (.call (.ref f) args) (CR CX0 outer P w H s Q E) s
theorem FnEi.mono {P : Program} {w : World} {mg : Str → Option Value} {base : Heap} {D : Addr} {j k : Nat} {f : Addr} {fd : FuncData} {ps : List Str} {sp : Addr → Addr → Sp} (F : FnEi P w K mg base D j f fd ps sp) (h : j ≤ k) : FnEi P w K mg base D k f fd ps sp :=
  ⟨F.len, fun A outer s H args us vs Q E p d hr => F.run A outer s H args us vs Q E p d (hr.mono h)⟩
end
section
variable {K : PySem.W.Frag} {X : Cx} {S R : Type} {Δ : Ctx K S} {st : Stmt} {e fe : Expr} {es : List Expr} {pos pos2 px : Pos} {c0 c1 : List (S → Prop)} {tf : TE} {t : TA} {x : Str} {C : Value}
theorem RTi.asg {i : Nat} {q : S → Option Int → Prop} (he : RXi K X Δ e q C) (hN : X.N.Nodup) (hi : X.N[i]? = some x) (hx : Loc X.env.scope x) (hf : X.fn x = true ∨ X.env.scope.names.lookup x = some .local := by first | exact .inl rfl | exact .inr rfl | assumption) (hs : swapsWithSole [.Name x px] e pos.line X.env = pure false := by rfl) (hw : swappedStores [.Name x px] e X.env = pure none := by rfl)
    (h1 : (assignEach [.Name x px] X.env).map (·.2) = [assign (.Name x px) X.env] := by rfl) : RTi K X Δ (.Assign [.Name x px] e pos) q C := fun W tk => by
  obtain ⟨t, p, r⟩ := he W tk
  exact ⟨_, ps_asg p (pg_name hN hi hx hf) hs hw h1, fun s o F H σ hh sm hq w D => r s o F H σ hh sm hq w _⟩
/-- return e, where e raises -/
theorem RT.ret {q : S → Prop} (he : RX K X Δ e q C) : RT K X Δ (.Return (some e) pos) q C := fun W tk => by
  obtain ⟨t, p, r⟩ := he W tk
  exact ⟨_, ps_ret p, fun s F H σ hh sm hq w D => r s F H σ hh sm hq w _⟩
/-- len(e), where e raises -/
theorem RX.len {q : S → Prop} (hm : X.mg "len" = none) (he : RX K X Δ e q C) (hg : Gl X "len" := by rfl) (hs : starEach [e] X.env = (false, eval e X.env) :: starEach [] X.env := by rfl) : RX K X Δ (.Call (.Name "len" px) [e] [] pos) q C := fun W tk => by
  obtain ⟨t, p, r⟩ := he W tk
  exact ⟨_, pe_callB call_len_seq hg hm PySem.boot_len (pa_cons p pa_nil hs) (by decide) (by decide) hs rfl, fun s F H σ hh sm hq w Q => r s F H σ hh sm hq w _⟩
end
section
variable {K : PySem.W.Frag} {X : Cx} {S : Type} {Δ Δ1 : Ctx K S} {e : Expr} {τ : Ty K} {ms : List Nat} {cs : List (S → Prop)} {ta : TE} {n : Nat}
end
/-! #### caught -/
section
variable {K : PySem.W.Frag} {X : Cx} {S R : Type} {fm : Fm K R} {Δ Δ0 Δ1 Δa Δb Δj : Ctx K S} {st : Stmt} {mus : List Nat} {c0 c1 ca cb : List (S → Prop)} {q : S → Option Int → Prop}
end
/-! #### raised in a turn of a loop that keeps nothing -/
section
variable {K : PySem.W.Frag} {X : Cx} {S : Type} {Δ Δ1 : Ctx K S} {Δl : Ctx K (S × Unit)} {body rest : List Stmt} {tg iter : Expr} {pos : Pos} {τ : Ty K} {Δb Δe : Ctx K ((S × Unit) × τ.α)} {is : List Nat} {c1 : List (S → Prop)} {cb : List ((S × Unit) × τ.α → Prop)} {wi : TI} {g : TG} {fx : S → List τ.α} {qb : (S × Unit) × τ.α → Option Int → Prop} {C : Value}
end
end Dx

/-! Dx, part yf: repr of an int or None as a text that can be put together with others. -/
namespace Dx
open PySem PySem.Spec PyProof PyProof.Rows L2
section
variable {K : PySem.W.Frag} {X : Cx} {S R : Type} {Δ Δ1 : Ctx K S} {e : Expr} {pos px : Pos} {ms : List Nat} {c1 : List (S → Prop)} {ta : TE}
end
end Dx

/-! Dx, part yg: a tuple taken apart where an exception is handled. -/
namespace Dx
open PySem PySem.Spec PyProof PyProof.Rows L2
open PySem.HandSPX in
section
variable {prog : Program} {w : World} {A : Around} {E : Value → Shared → Prop} {s : Shared}
end
section
variable {X : Cx} {pos : Pos}
end
section
variable {K : PySem.W.Frag} {X : Cx} {S : Type} {Δ Δ1 : Ctx K S} {pos : Pos} {ts : List (Ty K)}
end
/-! #### long lists of conditions, met one by one -/
section
variable {S : Type}
end
end Dx

/-! Dx, part yh: x[b] += e. -/
namespace Dx
open PySem PySem.Spec PyProof PyProof.Rows L2
section
variable {X : Cx}
end
section
variable {K : PySem.W.Frag} {X : Cx} {S : Type} {Δ Δ1 : Ctx K S} {e b : Expr} {pos : Pos} {x : Str} {i : Nat} {mus : List Nat} {c1 c2 : List (S → Prop)} {ta tb : TE}
end
section
variable {K : PySem.W.Frag} {X : Cx} {S : Type} {Δ Δ1 : Ctx K S} {sts : List Stmt} {cs : List (S → Prop)} {mus : List Nat}
end
end Dx

/-! Dx, part yi: list(dict(pairs)) with tuples, nested, as keys: each key once. -/
namespace Dx
open PySem PySem.Spec PyProof PyProof.Rows L2
/-- v is the key k wherever H holds -/
def Lies (X : Cx) (H : Hp) (k : NestedKey) (v : V) : Prop := ∀ (pins : List (Addr × Obj)) (σ : L2.St) (s : Shared) (u : Value), L2.Inv X pins σ H s → RelV v u → NestedIs s.heap k u
section
variable {X : Cx} {H : Hp}
theorem lies_none : Lies X H .none .non := fun pins σ s u I r => by cases r; exact .none
theorem lies_bool (b : Bool) : Lies X H (.num (if b = true then 1 else 0)) (.bl b) := fun pins σ s u I r => by cases r; exact .bool rfl
theorem lies_int (i : Int) : Lies X H (.num i) (.int i) := fun pins σ s u I r => by obtain ⟨t, rfl⟩ := r; exact .int i t
theorem lies_all {pins : List (Addr × Obj)} {σ : L2.St} {s : Shared} (I : L2.Inv X pins σ H s) : ∀ {vs : List V} {ks : List NestedKey} {us : List Value}, Paired (fun v k => Lies X H k v) vs ks → Vals vs us → NestedAll s.heap ks us
  | _, _, _, .nil, .nil => .nil
  | _, _, _, .cons h t, .cons r q => .cons (h _ _ _ _ I r) (lies_all I t q)
theorem lies_tup {a : Addr} {vs : List V} {ks : List NestedKey} (sq : SqT X.K H a vs) (h : Paired (fun v k => Lies X H k v) vs ks) : Lies X H (.tup ks) (.ref a) := fun pins σ s u I r => by
  obtain rfl : u = .ref a := r
  obtain ⟨us, ru, ⟨o, ho, hc, n, hd⟩, _⟩ := I.tuple sq
  exact .tup ho hc hd (by simpa using lies_all I h ru)
end
/-- each key once, with the first value that came with it -/
def uqP (acc : List (NestedKey × Addr)) (p : NestedKey × Addr) : List (NestedKey × Addr) := if p.1 ∈ acc.map (·.1) then acc else acc ++ [p]
def uqK (ps : List (NestedKey × Addr)) : List Addr := (ps.foldl uqP []).map (·.2)
theorem atKey_mem {xs : List (NestedKey × Addr × Value)} {k : NestedKey} : (atKey xs k).isSome = true ↔ k ∈ xs.map (·.1) := by
  unfold atKey
  rw [Option.isSome_map, List.find?_isSome, List.mem_map]
  constructor
  · rintro ⟨x, hx, e⟩; exact ⟨x, hx, of_decide_eq_true e⟩
  · rintro ⟨x, hx, e⟩; exact ⟨x, hx, decide_eq_true e⟩
def proj (x : NestedKey × Addr × Value) : NestedKey × Addr := (x.1, x.2.1)
theorem proj_stored (xs : List (NestedKey × Addr × Value)) (p : NestedKey × Addr × Value) : (storedH xs p.1 p.2.1 p.2.2).map proj = uqP (xs.map proj) (proj p) := by
  have em : (xs.map proj).map (·.1) = xs.map (·.1) := by rw [List.map_map]; rfl
  unfold storedH uqP
  rw [em]
  by_cases h : p.1 ∈ xs.map (·.1)
  · rw [if_pos (atKey_mem.mpr h), if_pos (show (proj p).1 ∈ _ from h), List.map_map]
    refine List.map_congr_left fun x _ => ?_
    show proj (putAt _ _ x) = proj x
    unfold putAt
    split <;> rfl
  · rw [if_neg (fun z => h (atKey_mem.mp z)), if_neg (show ¬ (proj p).1 ∈ _ from h), List.map_append]
    rfl
theorem proj_all (ps : List (NestedKey × Addr × Value)) : ∀ xs : List (NestedKey × Addr × Value), (storedAllH xs ps).map proj = (ps.map proj).foldl uqP (xs.map proj) := by
  induction ps with
  | nil => intro xs; rfl
  | cons p ps ih =>
    intro xs
    show (storedAllH (storedH xs p.1 p.2.1 p.2.2) ps).map proj = _
    rw [ih, proj_stored, List.map_cons, List.foldl_cons]
/-- a dict whose keys stand at bs -/
def DkO (d : Addr) (bs : List Addr) : HO := .ext fun h => (d == sysModules) = false ∧ ∃ o es ep, h.get? d = some o ∧ o.ExactDict ∧ o.data = .dict es ep ∧ es.toList.map (fun e => e.key) = bs.map Value.ref
theorem dkO_new {P : Program} {w : World} {H : Hp} {h : Heap} {d : Addr} {bs : List Addr} {o : Obj} {es : Array DictEntry} {ep : Nat} (z : (d == sysModules) = false) (ho : h.get? d = some o) (hx : o.ExactDict) (hd : o.data = .dict es ep)
    (hk : es.toList.map (fun e => e.key) = bs.map Value.ref) : ObjOk P w H h d (DkO d bs) :=
  ⟨⟨z, o, es, ep, ho, hx, hd, hk⟩, ⟨o, ho⟩, fun h1 h2 p k => by
    obtain ⟨z, o, es, ep, ho, r⟩ := p
    exact ⟨z, o, es, ep, by rw [k]; exact ho, r⟩⟩
section
variable {X : Cx} {pins : List (Addr × Obj)} {σ : L2.St} {H : Hp} {s : Shared}
/-- the pairs of a list, as they lie -/
def PairN (X : Cx) (H : Hp) (v : V) (kb : NestedKey × Addr) : Prop := ∃ T w, v = .ref T ∧ SqT X.K H T [.ref kb.2, w] ∧ Lies X H kb.1 (.ref kb.2) ∧ kb.1.depth ≤ 8
theorem pairs_lieN (I : L2.Inv X pins σ H s) : ∀ {xs : List V} {ps : List (NestedKey × Addr)} {its : List Value}, Vals xs its → Paired (PairN X H) xs ps →
    ∃ tr : List (NestedKey × Addr × Value), tr.map proj = ps ∧ tr.length = its.length ∧ ∀ j t, tr[j]? = some t → its[j]? = some (.ref (addrAt its j)) ∧ PairAt s.heap (addrAt its j) (.ref t.2.1) t.2.2 ∧ (nestedKind X.prog X.w).is s.heap t.1 t.2.1
  | _, _, _, .nil, .nil => ⟨[], rfl, rfl, fun j t e => by simp at e⟩
  | _, _, it :: its, .cons rv r, .cons (b := kb) pv p => by
    obtain ⟨T, w, e, sq, li, dp⟩ := pv
    subst e
    have eT : it = .ref T := rv
    subst eT
    obtain ⟨us, ru, tp, _⟩ := I.tuple sq
    cases ru with
    | cons ru1 ru =>
      rename_i u us
      obtain rfl : u = .ref kb.2 := ru1
      cases ru with
      | cons ru2 ru =>
        rename_i w us
        cases ru
        obtain ⟨tr, h1, h2, h3⟩ := pairs_lieN I r p
        refine ⟨(kb.1, kb.2, w) :: tr, by rw [List.map_cons, h1]; rfl, by rw [List.length_cons, List.length_cons, h2], fun j t e => ?_⟩
        cases j with
        | zero =>
          have e' : (kb.1, kb.2, w) = t := Option.some.inj e
          subst e'
          exact ⟨rfl, .inl tp, li _ _ _ _ I rfl, dp⟩
        | succ j => exact h3 j t e
def kUq (X : Cx) (x : V) (H : Hp) (Q : VK) : Prop := ∃ p xs ps, x = .ref p ∧ SqL X.K H p xs ∧ Paired (PairN X H) xs ps ∧ xs.length ≤ sizeLine ∧ ∀ q, H q = none → Q (.ref q) (upd H q (DkO q (uqK ps)))
theorem rl_uq (hc : X.calm = true) (hu : X.A.units + 65 < cLine) (x : V) (v : Value) (Q : VK) (I : L2.Inv X pins σ H s) (r : RelV x v) (h : kUq X x H Q) : wpAny (model X.prog X.w) X.A (call (.type "dict") [v]) (EP X pins σ Q) X.xe s := by
  obtain ⟨p, xs, ps, rfl, sq, pr, z, q⟩ := h
  obtain rfl : v = .ref p := r
  obtain ⟨its, rv, pl, _⟩ := I.list sq
  obtain ⟨tr, h1, h2, h3⟩ := pairs_lieN I rv pr
  have hlen : xs.length = its.length := rv.length
  have P := PairArg.list (prog := X.prog) (w := X.w) p its.toArray (addrAt its) (tr.map fun t => (.ref t.2.1, t.2.2))
  refine call_dict_pairsH (knd := nestedKind X.prog X.w) (ps := tr) P (I.ok.hd hc) ?_ ⟨pl, by simp [h2], fun j k v e => ?_⟩ ⟨by simp, fun j k v e => ?_⟩ (fun h' hk x hx => ?_) (by rw [List.length_map]; omega) fun h' tk hd hk => ?_
  · show X.A.units + 1 + 1 + 8 < cLine
    omega
  · rw [List.getElem?_map] at e
    obtain ⟨t, et, e2⟩ := Option.map_eq_some_iff.mp e
    obtain ⟨a1, a2, _⟩ := h3 j t et
    cases e2
    exact ⟨by simpa using a1, a2⟩
  · have e' : (tr.map fun t => ((.ref t.2.1, t.2.2) : Value × Value))[j]? = some (k, v) := e
    rw [List.getElem?_map] at e'
    obtain ⟨t, et, e2⟩ := Option.map_eq_some_iff.mp e'
    cases e2
    exact ⟨t.1, t.2.1, et, rfl⟩
  · obtain ⟨j, hj⟩ := List.getElem?_of_mem hx
    obtain ⟨_, _, a3⟩ := h3 j x hj
    exact nestedKind_stays.stays (fun b o vs n hb _ => hk b o (Nat.ne_of_lt (Heap.lt_size hb)) (fun z => nomatch z) hb) a3
  · have hbig := I.big
    obtain ⟨o, es, ep, ho, hx, hdt, he, _, _⟩ := hd
    have ek : es.toList.map (fun e => e.key) = (uqK ps).map Value.ref := by
      rw [he, List.map_map]
      have e1 := proj_all tr []
      rw [h1] at e1
      show (storedAllH [] tr).map (fun x => Value.ref x.2.1) = ((ps.foldl uqP []).map (·.2)).map Value.ref
      rw [show ps.foldl uqP [] = (storedAllH [] tr).map proj from e1.symm, List.map_map, List.map_map]
      rfl
    exact ⟨.ref s.heap.objs.size, _, I.laid (fun b o e => hk b o (fun z => nomatch z) e) (Nat.le_refl _) (dkO_new (beq_eq_false_iff_ne.mpr (Nat.ne_of_gt hbig)) ho hx hdt ek), rfl, q _ (I.hok.fresh (Nat.le_refl _))⟩
theorem pe_uqOf {a : Expr} {ta : TE} {p pos : Pos} (hc : X.calm = true) (hu : X.A.units + 65 < cLine) (hg : Gl X "dict") (hm : X.mg "dict" = none) (ha : PE X a ta) (na : starEach [a] X.env = (false, eval a X.env) :: starEach [] X.env := by rfl) :
    PE X (.Call (.Name "dict" p) [a] [] pos) (tThen ta (kUq X)) := by
  refine ⟨fun pins s σ H Q I h => ?_⟩
  exact Call_ (ld_blt I hg hm PyProof.Rows.boot_dict (PyProof.Rows.callWith_type1 (one_arg ha I h (fun v s2 x H2 I2 r q => rl_uq hc hu x v Q I2 r q) na) na))
theorem vrefsN : ∀ bs : List Addr, Vals (bs.map V.ref) (bs.map Value.ref)
  | [] => .nil
  | _ :: r => .cons rfl (vrefsN r)
/-- list(d): the keys -/
def rListN : List V → Hp → VK → Prop := fun xs H Q => ∃ d bs, xs = [V.ref d] ∧ H d = some (DkO d bs) ∧ bs.length ≤ sizeLine ∧ ∀ q, H q = none → Q (.ref q) (upd H q (.lst (bs.map V.ref)))
theorem call_listN (hc : X.calm = true) : CallR X (.type "list") rListN := by
  intro pins s σ H xs us Q I r h
  obtain ⟨d, bs, rfl, hd, z, q⟩ := h
  obtain ⟨u, rfl, rx⟩ := r.one
  cases rx
  obtain ⟨hs, o, es, ep, ho, hx, hdt, hk⟩ := (I.hok d _ hd).1
  have l1 : es.size = bs.length := by
    have := congrArg List.length hk
    simpa using this
  refine PySem.W.kdl_call (kdl_raw hs hx hdt) (I.ok.hd hc) ho (by omega) fun h' tk acc' c' kp e it => ?_
  have ea : acc'.toList = bs.map Value.ref := by
    rw [← hk]
    apply List.ext_getElem?
    intro j
    rw [List.getElem?_map]
    have hl : acc'.toList.length = es.toList.length := by rw [Array.length_toList, it.1, Array.length_toList]
    cases hj : acc'.toList[j]? with
    | none =>
      have h1 := List.getElem?_eq_none_iff.mp hj
      rw [List.getElem?_eq_none (by omega)]
      rfl
    | some v =>
      obtain ⟨en, hen, hv⟩ := it.2 j v (by rw [← Array.getElem?_toList]; exact hj)
      rw [Array.getElem?_toList, hen, hv]
      rfl
  have rv : Vals (bs.map V.ref) acc'.toList := by rw [ea]; exact vrefsN _
  refine ⟨.ref s.heap.objs.size, _, I.laid (t' := tk) (o := .lst (bs.map V.ref)) kp (Nat.le_refl _) ?_, rfl, q _ (I.hok.fresh (Nat.le_refl _))⟩
  exact ⟨by rw [List.length_map]; exact z, acc'.toList, c', rv, by rw [Array.toArray_toList]; exact e⟩
end
/-! ### data as keys -/
structure KeyTy {K : PySem.W.Frag} (τ : Ty K) (key : τ.α → NestedKey) (n : Nat) : Prop where
  lies : ∀ {X : Cx} {F H : Hp} {v : V} {x : τ.α}, X.K = K → Same F H → τ.rep F v x → Lies X H (key x) v
  deep : ∀ x, (key x).depth ≤ n
  inj : ∀ x y, key x = key y → x = y
  some : ∀ x, key x ≠ .none
section
variable {K : PySem.W.Frag}
theorem num_ne (i : Int) : NestedKey.num i ≠ .none := fun h => nomatch h
theorem tup_ne (ks : List NestedKey) : NestedKey.tup ks ≠ .none := fun h => nomatch h
theorem key_int : KeyTy (tInt K) (fun i => .num i) 0 where
  lies := fun _ _ r => by cases r; exact lies_int _
  deep := fun _ => Nat.le_refl _
  inj := fun _ _ e => NestedKey.num.inj e
  some := fun _ => num_ne _
theorem key_bool : KeyTy (tBool K) (fun b => .num (if b = true then 1 else 0)) 0 where
  lies := fun _ _ r => by cases r; exact lies_bool _
  deep := fun _ => Nat.le_refl _
  inj := fun x y e => by
    have e := NestedKey.num.inj e
    cases x
    · cases y
      · rfl
      · exact absurd (show (0 : Int) = 1 from e) (by decide)
    · cases y
      · exact absurd (show (1 : Int) = 0 from e) (by decide)
      · rfl
  some := fun _ => num_ne _
def keyO {α : Type} (key : α → NestedKey) : Option α → NestedKey
  | none => .none
  | some x => key x
/-- keys that may be None: for the parts of a tuple -/
structure KeyPt {K : PySem.W.Frag} (τ : Ty K) (key : τ.α → NestedKey) (n : Nat) : Prop where
  lies : ∀ {X : Cx} {F H : Hp} {v : V} {x : τ.α}, X.K = K → Same F H → τ.rep F v x → Lies X H (key x) v
  deep : ∀ x, (key x).depth ≤ n
  inj : ∀ x y, key x = key y → x = y
theorem KeyTy.pt {τ : Ty K} {key : τ.α → NestedKey} {n : Nat} (h : KeyTy τ key n) : KeyPt τ key n := ⟨h.lies, h.deep, h.inj⟩
theorem KeyPt.up {τ : Ty K} {key : τ.α → NestedKey} {n m : Nat} (h : KeyPt τ key n) (e : n ≤ m) : KeyPt τ key m := ⟨h.lies, fun x => Nat.le_trans (h.deep x) e, h.inj⟩
theorem key_opt {τ : Ty K} {key : τ.α → NestedKey} {n : Nat} (h : KeyTy τ key n) : KeyPt (tOpt τ) (keyO key) n where
  lies := fun {X F H v x} e sm r => by
    cases x with
    | none => obtain rfl : v = .non := r; exact lies_none
    | some x => exact h.lies e sm r.2
  deep := fun x => by
    cases x with
    | none => exact Nat.zero_le _
    | some x => exact h.deep x
  inj := fun x y e => by
    cases x with
    | none =>
      cases y with
      | none => rfl
      | some y => exact absurd e.symm (h.some y)
    | some x =>
      cases y with
      | none => exact absurd e (h.some x)
      | some y => exact congrArg some (h.inj x y e)
theorem deepAll {ks : List NestedKey} {n : Nat} (h : ∀ k ∈ ks, k.depth ≤ n) : NestedKey.depthAll ks ≤ n := by
  induction ks with
  | nil => exact Nat.zero_le _
  | cons k ks ih =>
    rw [NestedKey.depthAll]
    exact Nat.max_le.mpr ⟨h k List.mem_cons_self, ih fun j hj => h j (List.mem_cons_of_mem _ hj)⟩
theorem deepTup {ks : List NestedKey} {n : Nat} (h : ∀ k ∈ ks, k.depth ≤ n) : (NestedKey.tup ks).depth ≤ n + 1 := by
  rw [NestedKey.depth]
  exact Nat.succ_le_succ (deepAll h)
theorem key_seq {τ : Ty K} {key : τ.α → NestedKey} {n : Nat} (h : KeyPt τ key n) : KeyTy (tSeq τ) (fun xs => .tup (xs.map key)) (n + 1) where
  lies := fun {X F H v xs} e sm r => by
    obtain ⟨a, vs, rfl, q, pr, z⟩ := r
    refine lies_tup (.inl (.inl (sm _ _ q))) ?_
    clear q z
    induction pr with
    | nil => exact .nil
    | cons r t ih => exact .cons (h.lies e sm r) ih
  deep := fun xs => deepTup fun k hk => by
    obtain ⟨x, _, rfl⟩ := List.mem_map.mp hk
    exact h.deep x
  inj := fun xs ys e => by
    have e := NestedKey.tup.inj e
    induction xs generalizing ys with
    | nil =>
      cases ys with
      | nil => rfl
      | cons y ys => exact nomatch e
    | cons x xs ih =>
      cases ys with
      | nil => exact nomatch e
      | cons y ys =>
        obtain ⟨e1, e2⟩ := List.cons.inj e
        rw [h.inj _ _ e1, ih ys (congrArg NestedKey.tup e2) e2]
  some := fun _ => tup_ne _
theorem key_tup3 {τ τ2 τ3 : Ty K} {key : τ.α → NestedKey} {key2 : τ2.α → NestedKey} {key3 : τ3.α → NestedKey} {n : Nat} (h : KeyPt τ key n) (h2 : KeyPt τ2 key2 n) (h3 : KeyPt τ3 key3 n) : KeyTy (tTp [τ, τ2, τ3]) (fun x => .tup [key x.1, key2 x.2.1, key3 x.2.2]) (n + 1) where
  lies := fun {X F H v x} e sm r => by
    obtain ⟨a, vs, rfl, q, v1, r1, rfl, p1, v2, r2, rfl, p2, v3, rfl, p3⟩ := r
    exact lies_tup (.inl (.inl (sm _ _ q))) (.cons (h.lies e sm p1) (.cons (h2.lies e sm p2) (.cons (h3.lies e sm p3) .nil)))
  deep := fun x => deepTup fun k hk => by
    rcases List.mem_cons.mp hk with rfl | hk
    · exact h.deep _
    rcases List.mem_cons.mp hk with rfl | hk
    · exact h2.deep _
    rcases List.mem_cons.mp hk with rfl | hk
    · exact h3.deep _
    cases hk
  inj := fun x y e => by
    obtain ⟨e1, e2⟩ := List.cons.inj (NestedKey.tup.inj e)
    obtain ⟨e2, e3⟩ := List.cons.inj e2
    obtain ⟨e3, _⟩ := List.cons.inj e3
    exact Prod.ext (h.inj _ _ e1) (Prod.ext (h2.inj _ _ e2) (h3.inj _ _ e3))
  some := fun _ => tup_ne _
end
/-- each once, the first of them kept -/
def insQ {α : Type} (d : DecidableEq α) (acc : List α) (x : α) : List α := if @List.contains α ⟨fun a b => @decide (a = b) (d a b)⟩ acc x = true then acc else acc ++ [x]
def uqL {α : Type} (d : DecidableEq α) (xs : List α) : List α := xs.foldl (insQ d) []
theorem insQ_mem {α : Type} {d : DecidableEq α} {acc : List α} {x : α} : insQ d acc x = if x ∈ acc then acc else acc ++ [x] := by
  have e : (@List.contains α ⟨fun a b => @decide (a = b) (d a b)⟩ acc x = true) ↔ x ∈ acc := by
    letI : BEq α := ⟨fun a b => @decide (a = b) (d a b)⟩
    haveI : LawfulBEq α := { eq_of_beq := fun {a b} h => @of_decide_eq_true _ (d a b) h, rfl := fun {a} => @decide_eq_true _ (d a a) rfl }
    exact List.contains_iff_mem
  unfold insQ
  by_cases h : x ∈ acc
  · rw [if_pos (e.mpr h), if_pos h]
  · rw [if_neg (fun z => h (e.mp z)), if_neg h]
theorem mem_insQ {α : Type} {d : DecidableEq α} {acc : List α} {x y : α} : y ∈ insQ d acc x ↔ y ∈ acc ∨ y = x := by
  rw [insQ_mem]
  split
  · rename_i h
    exact ⟨.inl, fun z => z.elim id fun e => e ▸ h⟩
  · rw [List.mem_append, List.mem_singleton]
theorem mem_foldQ {α : Type} {d : DecidableEq α} {y : α} : ∀ {xs acc : List α}, y ∈ xs.foldl (insQ d) acc ↔ y ∈ acc ∨ y ∈ xs
  | [], acc => by simp
  | x :: xs, acc => by
    rw [List.foldl_cons, mem_foldQ, mem_insQ, List.mem_cons, or_assoc]
theorem mem_uqL {α : Type} {d : DecidableEq α} {y : α} {xs : List α} : y ∈ uqL d xs ↔ y ∈ xs := by
  rw [uqL, mem_foldQ]
  simp
theorem len_foldQ {α : Type} {d : DecidableEq α} : ∀ {xs acc : List α}, (xs.foldl (insQ d) acc).length ≤ acc.length + xs.length
  | [], acc => Nat.le_refl _
  | x :: xs, acc => by
    have h := len_foldQ (d := d) (xs := xs) (acc := insQ d acc x)
    have h2 : (insQ d acc x).length ≤ acc.length + 1 := by
      rw [insQ_mem]
      split
      · omega
      · rw [List.length_append, List.length_singleton]
        exact Nat.le_refl _
    rw [List.foldl_cons, List.length_cons]
    omega
theorem len_uqL {α : Type} {d : DecidableEq α} {xs : List α} : (uqL d xs).length ≤ xs.length := by
  have := len_foldQ (d := d) (xs := xs) (acc := [])
  simpa [uqL] using this
section
variable {K : PySem.W.Frag} {X : Cx} {S : Type} {Δ Δ1 Δ2 : Ctx K S} {e : Expr} {pos px pos2 px2 : Pos} {τ τ2 : Ty K} {ms : List Nat} {c1 : List (S → Prop)} {ta : TE}
/-- the accumulated keys stand for the accumulated things -/
def AccN (τ : Ty K) (key : τ.α → NestedKey) (F : Hp) (kb : NestedKey × Addr) (x : τ.α) : Prop := kb.1 = key x ∧ τ.rep F (.ref kb.2) x
theorem acc_mem {key : τ.α → NestedKey} {n : Nat} (hk : KeyTy τ key n) {F : Hp} : ∀ {acc : List (NestedKey × Addr)} {ys : List τ.α}, Paired (AccN τ key F) acc ys → ∀ x, key x ∈ acc.map (·.1) ↔ x ∈ ys
  | _, _, .nil, x => by simp
  | _, _, .cons h t, x => by
    rw [List.map_cons, List.mem_cons, List.mem_cons, acc_mem hk t x, h.1]
    exact or_congr ⟨fun e => hk.inj _ _ e, fun e => congrArg key e⟩ Iff.rfl
theorem paired_snoc {α β : Type} {R : α → β → Prop} {x : α} {y : β} (h : R x y) : ∀ {xs : List α} {ys : List β}, Paired R xs ys → Paired R (xs ++ [x]) (ys ++ [y])
  | _, _, .nil => .cons h .nil
  | _, _, .cons a t => .cons a (paired_snoc h t)
theorem acc_fold {key : τ.α → NestedKey} {n : Nat} (hk : KeyTy τ key n) (d : DecidableEq τ.α) {F : Hp} : ∀ {ps : List (NestedKey × Addr)} {xs : List τ.α} {acc : List (NestedKey × Addr)} {ys : List τ.α}, Paired (AccN τ key F) ps xs → Paired (AccN τ key F) acc ys →
    Paired (AccN τ key F) (ps.foldl uqP acc) (xs.foldl (insQ d) ys)
  | _, _, _, _, .nil, h => h
  | _, _, acc, ys, .cons (a := p) (b := x) a t, h => by
    rw [List.foldl_cons, List.foldl_cons]
    refine acc_fold hk d t ?_
    rw [insQ_mem, uqP, a.1]
    by_cases m : x ∈ ys
    · rw [if_pos ((acc_mem hk h x).mpr m), if_pos m]; exact h
    · rw [if_neg (fun z => m ((acc_mem hk h x).mp z)), if_neg m]; exact paired_snoc a h
theorem acc_refs {key : τ.α → NestedKey} {F : Hp} : ∀ {acc : List (NestedKey × Addr)} {ys : List τ.α}, Paired (AccN τ key F) acc ys → Paired (τ.rep F) ((acc.map (·.2)).map V.ref) ys
  | _, _, .nil => .nil
  | _, _, .cons a t => .cons a.2 (acc_refs t)
theorem pairs_ofN {key : τ.α → NestedKey} {n : Nat} (hk : KeyTy τ key n) (hn : n ≤ 8) (hr : ∀ {F : Hp} {v : V} {x : τ.α}, τ.rep F v x → ∃ a, v = .ref a) (hK : X.K = K) {F H : Hp} (sm : Same F H) : ∀ {vs : List V} {xs : List (τ.α × τ2.α)}, Paired ((tTp [τ, τ2]).rep F) vs xs →
    ∃ ps : List (NestedKey × Addr), Paired (PairN X H) vs ps ∧ Paired (AccN τ key F) ps (xs.map Prod.fst)
  | _, _, .nil => ⟨[], .nil, .nil⟩
  | _, _, .cons (b := x) r t => by
    obtain ⟨ps, h1, h2⟩ := pairs_ofN hk hn hr hK sm t
    obtain ⟨a, ws, rfl, q, v1, r1, rfl, p1, v2, rfl, p2⟩ := r
    obtain ⟨b, rfl⟩ := hr p1
    exact ⟨(key x.1, b) :: ps, .cons ⟨a, v2, rfl, .inl (.inl (sm _ _ q)), hk.lies hK sm p1, Nat.le_trans (hk.deep _) hn⟩ h1, .cons ⟨rfl, p1⟩ h2⟩
/-- list(dict(e)), pairs -/
theorem DO.uniq {key : τ.α → NestedKey} {n : Nat} {f : S → List (τ.α × τ2.α)} (hk : KeyTy τ key n) (d : DecidableEq τ.α) (hu : X.A.units + 65 < cLine) (hm : X.mg "list" = none) (hm2 : X.mg "dict" = none) (he : DX K X Δ e (tList (tTp [τ, τ2])) ms c1 Δ1 f ta)
    (hr : ∀ {F : Hp} {v : V} {x : τ.α}, τ.rep F v x → ∃ a, v = .ref a) (hn : n ≤ 8 := by decide) (hK : X.K = K := by rfl) (hcm : X.calm = true := by rfl) (hg : Gl X "list" := by rfl) (hg2 : Gl X "dict" := by rfl)
    (hs : starEach [e] X.env = (false, eval e X.env) :: starEach [] X.env := by rfl)
    (hs2 : starEach [.Call (.Name "dict" px2) [e] [] pos2] X.env = (false, eval (.Call (.Name "dict" px2) [e] [] pos2) X.env) :: starEach [] X.env := by rfl) (hpl2 : (backTo pos (starEach [] X.env)).any (·.1) = false := by rfl) :
    DO K X Δ (.Call (.Name "list" px) [.Call (.Name "dict" px2) [e] [] pos2] [] pos) (oList τ) ms c1 Δ1 (fun s => uqL d ((f s).map Prod.fst)) (tCB rListN (tCons (tThen ta (kUq X)) tNil)) := by
  subst hK
  obtain ⟨d1, p, r⟩ := he
  have p2 : PE X (.Call (.Name "dict" px2) [e] [] pos2) (tThen ta (kUq X)) := pe_uqOf hcm hu hg2 hm2 p hs
  refine ⟨d1, pe_callTy (call_listN hcm) hg hm (by decide +kernel) (pa_cons p2 pa_nil hs2) (by decide) (by decide) hs2 hpl2, fun s F H σ hh sm hcj Q q => ?_⟩
  refine r s F H σ hh sm hcj _ fun v F1 H1 g1 hh1 ⟨a, vs, ev, sq, pr, z⟩ => ?_
  obtain ⟨ps, h1, h2⟩ := pairs_ofN hk hn hr rfl g1.fh pr
  refine ⟨a, vs, ps, ev, .inl (.inl (g1.fh _ _ sq)), h1, by rw [pr.length]; exact z, fun p2 n2 => ?_⟩
  have h3 := acc_fold hk d h2 (acc := []) (ys := []) .nil
  have h4 := acc_refs h3
  have zl : (uqK ps).length ≤ sizeLine := by
    have e1 := h4.length
    rw [List.length_map] at e1
    have e2 := len_uqL (d := d) (xs := (f s).map Prod.fst)
    rw [List.length_map] at e2
    unfold uqK
    rw [e1]
    exact Nat.le_trans e2 z
  refine ⟨p2, uqK ps, rfl, upd_same, zl, fun p3 n3 => ?_⟩
  have g2 : Gr (MsAt ms σ) F H F1 (upd H1 p2 (DkO p2 (uqK ps))) := g1.trans (Gr.newO g1.fh n2).of0
  have o : (oList τ).own F1 (.lst ((uqK ps).map V.ref)) (uqL d ((f s).map Prod.fst)) := ⟨_, rfl, h4, by
    have e1 := h4.length
    rw [List.length_map] at e1
    show (uqL d _).length ≤ _
    unfold uqL
    rw [← e1]
    exact zl⟩
  obtain ⟨g3, fn, e3⟩ := own_of_new g2.fh n3 o
  exact q p3 _ F1 _ (g2.trans g3.of0) ((hh1.grow (Gr.newO g1.fh n2)).grow g3) (g2.dom p3 n3) fn e3 o
end
section
variable {K : PySem.W.Frag} {X : Cx} {S : Type} {Δ Δ1 Δ2 : Ctx K S} {a b : Expr} {elts : List Expr} {pos px : Pos} {τ τ2 : Ty K} {m1 m2 : List Nat} {c1 c2 : List (S → Prop)} {ta tb : TE}
/-- zip of two tuples -/
theorem DI.zipQ {f : S → List τ.α} {g : S → List τ2.α} {tpos : Pos} {kk : Nat} (hm : X.mg "zip" = none) (he : DX K X Δ a (tSeq τ) m1 c1 Δ1 f ta) (hb : DX K X Δ1 b (tSeq τ2) m2 c2 Δ2 g tb) (hg : Gl X "zip" := by rfl) (hs : starEach [a, b] X.env = (false, eval a X.env) :: starEach [b] X.env := by rfl) (hs2 : starEach [b] X.env = (false, eval b X.env) :: starEach [] X.env := by rfl)
    (hpl : (backTo pos (starEach [b] X.env)).any (·.1) = false := by rfl) (hK : X.K = K := by rfl) : DI K X Δ (.Tuple elts kk tpos) (.Call (.Name "zip" px) [a, b] [] pos) (tTp [τ, τ2]) (m1 ++ m2) (c1 ++ c2) Δ2 (fun s => List.zip (f s) (g s)) (RZ.iZipA K (tCons ta (tCons tb tNil))) := by
  subst hK
  obtain ⟨d1, p, r⟩ := he
  obtain ⟨d2, p2, r2⟩ := hb
  refine ⟨d1.trans d2, RZ.pi_zipA hg hm (pa_cons p (pa_cons p2 pa_nil hs2) hs) hs hpl, fun s F H σ hh sm hc R q => ?_⟩
  obtain ⟨k1, k2⟩ := conj_app hc
  refine r s F H σ hh sm k1 _ fun v F1 H1 g1 hh1 r1 => r2 s F1 H1 σ hh1 g1.fh k2 _ fun w F2 H2 g2 hh2 r3 => ?_
  obtain ⟨a1, vs, ev, sq, pr, z⟩ := (tSeq τ).mono g2.ff r1
  obtain ⟨b1, ws, ew, sq2, pr2, z2⟩ := r3
  have g12 := (g1.mono (msAt_l (m2 := m2))).trans (g2.mono (msAt_r (m1 := m1)))
  exact ⟨a1, b1, vs, ws, by rw [ev, ew], .inr ⟨sqt g2.fh sq, sqt g2.fh sq2, q _ F2 H2 g12 hh2 (walks_zipT (sqt (Same.refl F2) sq) pr z (sqt (Same.refl F2) sq2) pr2)⟩⟩
end
end Dx


set_option maxHeartbeats 4000000
namespace Lw
open PySem PySem.Spec PyProof.Rows L2 Dx
abbrev m_law_cell_at_S : Type := (List Int) × Int × Unit
def m_law_cell_at (s : m_law_cell_at_S) : Int := hide ((if (decide (s.2.1 < ((s.1).length : Int))) = true then (ixI (0 : Int) s.1 s.2.1) else (0 : Int)))
def m_law_cell_at_p (s : m_law_cell_at_S) : Prop := Conj [fun s => if (decide (s.2.1 < ((s.1).length : Int))) = true then Conj [fun s => IxOk s.1 s.2.1] s else Conj [] s] s
abbrev m_law_cell_at_fm (K : PySem.W.Frag) : Fm K (Int) := ⟨[.fz (tScr K), .fz (tInt K)], .fz (tInt K), fun r => r, fun _ => ()⟩
abbrev m_law_pool_S : Type := Int × Int × Unit
def m_law_pool (s : m_law_pool_S) : (List Int) := hide (([(max (s.1 - ((10 : Int) ^ ((18 : Int)).toNat)) (0 : Int)), (((s.1 % (2147483629 : Int)) + ((51001 : Int) * s.2.1)) % (2147483629 : Int)), (0 : Int)] : List Int))
def m_law_pool_p (s : m_law_pool_S) : Prop := Conj [fun s => CPowX (10 : Int) (18 : Int), fun s => CPosM s.1 (2147483629 : Int), fun s => CMulX (51001 : Int) s.2.1, fun s => CPosM ((s.1 % (2147483629 : Int)) + ((51001 : Int) * s.2.1)) (2147483629 : Int)] s
abbrev m_law_pool_fm (K : PySem.W.Frag) : Fm K ((List Int)) := ⟨[.fz (tInt K), .fz (tInt K)], .ow (oList (tInt K)), fun r => r, fun _ => ()⟩
abbrev m_law_draw_S : Type := (List Int) × Int × Unit
def m_law_draw_v_pool_here_1 (s : m_law_draw_S) : (List Int) := (setI s.1 (2 : Int) ((ixI (0 : Int) s.1 (2 : Int)) + (1 : Int)))
def m_law_draw_v_stir_2 (s : m_law_draw_S) : Int := (((((ixI (0 : Int) (m_law_draw_v_pool_here_1 s) (1 : Int)) + (((7 : Int) * (ixI (0 : Int) (m_law_draw_v_pool_here_1 s) (2 : Int))) * (ixI (0 : Int) (m_law_draw_v_pool_here_1 s) (2 : Int)))) + (1 : Int)) ^ ((2 : Int)).toNat) % (2147483587 : Int))
def m_law_draw_v_pool_here_3 (s : m_law_draw_S) : (List Int) := (setI (m_law_draw_v_pool_here_1 s) (1 : Int) ((((m_law_draw_v_stir_2 s) * (69621 : Int)) + ((40692 : Int) * (ixI (0 : Int) (m_law_draw_v_pool_here_1 s) (2 : Int)))) % (2147483629 : Int)))
def m_law_draw_v_found_4 (s : m_law_draw_S) : Int := (((ixI (0 : Int) (m_law_draw_v_pool_here_3 s) (1 : Int)) / (64 : Int)) % s.2.1)
def m_law_draw_v_found_5 (s : m_law_draw_S) : Int := ((ixI (0 : Int) (m_law_draw_v_pool_here_3 s) (0 : Int)) % s.2.1)
def m_law_draw_v_pool_here_6 (s : m_law_draw_S) : (List Int) := (setI (m_law_draw_v_pool_here_3 s) (0 : Int) ((ixI (0 : Int) (m_law_draw_v_pool_here_3 s) (0 : Int)) / s.2.1))
def m_law_draw_h7 (s : m_law_draw_S) : Bool := (decide ((0 : Int) < (ixI (0 : Int) (m_law_draw_v_pool_here_3 s) (0 : Int))))
def m_law_draw_v_pool_here_8 (s : m_law_draw_S) : (List Int) := (if (m_law_draw_h7 s) = true then (m_law_draw_v_pool_here_6 s) else (m_law_draw_v_pool_here_3 s))
def m_law_draw_v_found_9 (s : m_law_draw_S) : Int := (if (m_law_draw_h7 s) = true then (m_law_draw_v_found_5 s) else (m_law_draw_v_found_4 s))
def m_law_draw (s : m_law_draw_S) : (List Int) × Int := hide (((m_law_draw_v_pool_here_8 s), (m_law_draw_v_found_9 s)))
def m_law_draw_p (s : m_law_draw_S) : Prop := Conj [fun s => IxOk s.1 (2 : Int), fun s => IxOk s.1 (2 : Int), fun s => IxOk (m_law_draw_v_pool_here_1 s) (1 : Int), fun s => IxOk (m_law_draw_v_pool_here_1 s) (2 : Int), fun s => CMulX (7 : Int) (ixI (0 : Int) (m_law_draw_v_pool_here_1 s) (2 : Int)), fun s => IxOk (m_law_draw_v_pool_here_1 s) (2 : Int), fun s => CMulX ((7 : Int) * (ixI (0 : Int) (m_law_draw_v_pool_here_1 s) (2 : Int))) (ixI (0 : Int) (m_law_draw_v_pool_here_1 s) (2 : Int)), fun s => CPowX (((ixI (0 : Int) (m_law_draw_v_pool_here_1 s) (1 : Int)) + (((7 : Int) * (ixI (0 : Int) (m_law_draw_v_pool_here_1 s) (2 : Int))) * (ixI (0 : Int) (m_law_draw_v_pool_here_1 s) (2 : Int)))) + (1 : Int)) (2 : Int), fun s => CPosM ((((ixI (0 : Int) (m_law_draw_v_pool_here_1 s) (1 : Int)) + (((7 : Int) * (ixI (0 : Int) (m_law_draw_v_pool_here_1 s) (2 : Int))) * (ixI (0 : Int) (m_law_draw_v_pool_here_1 s) (2 : Int)))) + (1 : Int)) ^ ((2 : Int)).toNat) (2147483587 : Int), fun s => CMulX (m_law_draw_v_stir_2 s) (69621 : Int), fun s => IxOk (m_law_draw_v_pool_here_1 s) (2 : Int), fun s => CMulX (40692 : Int) (ixI (0 : Int) (m_law_draw_v_pool_here_1 s) (2 : Int)), fun s => CPosM (((m_law_draw_v_stir_2 s) * (69621 : Int)) + ((40692 : Int) * (ixI (0 : Int) (m_law_draw_v_pool_here_1 s) (2 : Int)))) (2147483629 : Int), fun s => IxOk (m_law_draw_v_pool_here_1 s) (1 : Int), fun s => IxOk (m_law_draw_v_pool_here_3 s) (1 : Int), fun s => CDivW (ixI (0 : Int) (m_law_draw_v_pool_here_3 s) (1 : Int)) (64 : Int), fun s => CPosM ((ixI (0 : Int) (m_law_draw_v_pool_here_3 s) (1 : Int)) / (64 : Int)) s.2.1, fun s => IxOk (m_law_draw_v_pool_here_3 s) (0 : Int), fun s => (m_law_draw_h7 s) = true → IxOk (m_law_draw_v_pool_here_3 s) (0 : Int), fun s => (m_law_draw_h7 s) = true → CPosM (ixI (0 : Int) (m_law_draw_v_pool_here_3 s) (0 : Int)) s.2.1, fun s => (m_law_draw_h7 s) = true → IxOk (m_law_draw_v_pool_here_3 s) (0 : Int), fun s => (m_law_draw_h7 s) = true → CDivW (ixI (0 : Int) (m_law_draw_v_pool_here_3 s) (0 : Int)) s.2.1, fun s => (m_law_draw_h7 s) = true → IxOk (m_law_draw_v_pool_here_3 s) (0 : Int)] s
abbrev m_law_draw_fm (K : PySem.W.Frag) : Fm K ((List Int) × Int) := ⟨[.mu (oList (tInt K)), .fz (tInt K)], .fz (tInt K), fun r => r.2, fun r => (r.1, ())⟩
abbrev m_law_after_S : Type := (List Bool) × Int × Str × Int × Unit
def m_law_after_v_now_1 (s : m_law_after_S) : (List Bool) := (setI (s.1) s.2.2.2.1 (!(ixI false (s.1) s.2.2.2.1)))
abbrev m_law_after_L2M : Type := (List Bool)
def m_law_after_L2x (s : m_law_after_S) : List Int := (rangeL2 (min s.2.1 s.2.2.2.1) ((max s.2.1 s.2.2.2.1) + (1 : Int)))
def m_law_after_L2i (s : m_law_after_S) : m_law_after_L2M := ((s.1))
abbrev m_law_after_L2T : Type := (m_law_after_S × m_law_after_L2M) × Int
def m_law_after_v_now_3 (s : m_law_after_L2T) : (List Bool) := (setI s.1.2 s.2 (ixI false s.1.1.1 s.1.1.2.1))
def m_law_after_L2s (s : m_law_after_L2T) : m_law_after_L2M := ((m_law_after_v_now_3 s))
def m_law_after_L2c (s : m_law_after_L2T) : Prop := Conj [fun s => IxOk s.1.1.1 s.1.1.2.1, fun s => IxOk s.1.2 s.2] s
def m_law_after_L2 (s : m_law_after_S) : m_law_after_L2M := LoopF (fun m x => m_law_after_L2s ((s, m), x)) (m_law_after_L2x s) (m_law_after_L2i s)
def m_law_after_h4 (s : m_law_after_S) : Bool := ((dfStr).eq s.2.2.1 ("click" : Str))
def m_law_after_v_now_5 (s : m_law_after_S) : (List Bool) := (if (m_law_after_h4 s) = true then (m_law_after_v_now_1 s) else (m_law_after_L2 s))
def m_law_after (s : m_law_after_S) : (List Bool) := hide (((m_law_after_v_now_5 s)))
def m_law_after_p (s : m_law_after_S) : Prop := Conj [fun s => (m_law_after_h4 s) = true → IxOk (s.1) s.2.2.2.1, fun s => (m_law_after_h4 s) = true → IxOk (s.1) s.2.2.2.1, fun s => (m_law_after_h4 s) = false → RgOk2 (min s.2.1 s.2.2.2.1) ((max s.2.1 s.2.2.2.1) + (1 : Int)), fun s => (m_law_after_h4 s) = false → loopC (fun m x => m_law_after_L2c ((s, m), x)) (fun m x => m_law_after_L2s ((s, m), x)) (m_law_after_L2x s) (m_law_after_L2i s)] s
abbrev m_law_after_fm (K : PySem.W.Frag) : Fm K ((List Bool)) := ⟨[.fz (tSeq (tBool K)), .fz (tInt K), .fz (tStr K), .fz (tInt K)], .fz (tSeq (tBool K)), fun r => r, fun _ => ()⟩
abbrev m_law_search_S : Type := Int × (List Bool) × (List Bool) × Unit
def m_law_search_v_layer_1 (s : m_law_search_S) : (List ((List Bool) × (List Bool) × (Option Int))) := ([(s.2.1, s.2.2.1, none)] : List ((List Bool) × (List Bool) × (Option Int)))
abbrev m_law_search_L2M : Type := (List ((List Bool) × (List Bool) × (Option Int)))
def m_law_search_L2x (s : m_law_search_S) : List Int := (rangeL (4 : Int))
def m_law_search_L2i (s : m_law_search_S) : m_law_search_L2M := ((m_law_search_v_layer_1 s))
abbrev m_law_search_L2T : Type := (m_law_search_S × m_law_search_L2M) × Int
def m_law_search_h3 (s : m_law_search_L2T) : Bool := (!((dfList dfInt)).eq (lcV s.1.2 (fun x => (((dfSeq dfBool)).eq (s, x).2.1 (s, x).2.2.1)) (fun x => (1 : Int))) ([] : List Int))
def m_law_search_v_found_4 (s : m_law_search_L2T) : (List ((List Bool) × (List Bool) × (Option Int))) := ([] : List ((List Bool) × (List Bool) × (Option Int)))
abbrev m_law_search_L5M : Type := (List ((List Bool) × (List Bool) × (Option Int)))
def m_law_search_L5x (s : m_law_search_L2T) : List ((List Bool) × (List Bool) × (Option Int)) := (if (decide (s.2 < (3 : Int))) = true then s.1.2 else ([] : List ((List Bool) × (List Bool) × (Option Int))))
def m_law_search_L5i (s : m_law_search_L2T) : m_law_search_L5M := ((m_law_search_v_found_4 s))
abbrev m_law_search_L5T : Type := (m_law_search_L2T × m_law_search_L5M) × ((List Bool) × (List Bool) × (Option Int))
abbrev m_law_search_L6M : Type := (List ((List Bool) × (List Bool) × (Option Int)))
def m_law_search_L6x (s : m_law_search_L5T) : List Int := (rangeL s.1.1.1.1.1)
def m_law_search_L6i (s : m_law_search_L5T) : m_law_search_L6M := (s.1.2)
abbrev m_law_search_L6T : Type := (m_law_search_L5T × m_law_search_L6M) × Int
def m_law_search_c7 (s : m_law_search_L6T) : (List Bool) := m_law_after (s.1.1.2.1, (0 : Int), ("click" : Str), s.2, ())
def m_law_search_c8 (s : m_law_search_L6T) : (List Bool) := m_law_after (s.1.1.2.2.1, (0 : Int), ("click" : Str), s.2, ())
def m_law_search_v_found_9 (s : m_law_search_L6T) : (List ((List Bool) × (List Bool) × (Option Int))) := (s.1.2 ++ [((m_law_search_c7 s), (m_law_search_c8 s), (some s.2))])
def m_law_search_c10 (s : (m_law_search_L6T × (List Bool))) : (List Bool) := m_law_after (s.2, ((s.1.1.1.2.2.2).getD (0 : Int)), ("range" : Str), s.1.2, ())
def m_law_search_v_sides_11 (s : m_law_search_L6T) : (List (List Bool)) := (lcV ([(s.1.1.2.1, s.1.1.2.2.1).1, (s.1.1.2.1, s.1.1.2.2.1).2] : List (List Bool)) (fun x => true) (fun x => (m_law_search_c10 (s, x))))
def m_law_search_v_found_12 (s : m_law_search_L6T) : (List ((List Bool) × (List Bool) × (Option Int))) := ((m_law_search_v_found_9 s) ++ [((ixI ([] : List Bool) (m_law_search_v_sides_11 s) (0 : Int)), (ixI ([] : List Bool) (m_law_search_v_sides_11 s) (1 : Int)), s.1.1.2.2.2)])
def m_law_search_h13 (s : m_law_search_L6T) : Bool := (s.1.1.2.2.2).isSome
def m_law_search_v_found_14 (s : m_law_search_L6T) : (List ((List Bool) × (List Bool) × (Option Int))) := (if (m_law_search_h13 s) = true then (m_law_search_v_found_12 s) else (m_law_search_v_found_9 s))
def m_law_search_L6s (s : m_law_search_L6T) : m_law_search_L6M := ((m_law_search_v_found_14 s))
def m_law_search_L6c (s : m_law_search_L6T) : Prop := Conj [fun s => m_law_after_p (s.1.1.2.1, (0 : Int), ("click" : Str), s.2, ()), fun s => m_law_after_p (s.1.1.2.2.1, (0 : Int), ("click" : Str), s.2, ()), fun s => (s.1.2).length < sizeLine, fun s => (m_law_search_h13 s) = true → ∀ x ∈ ([(s.1.1.2.1, s.1.1.2.2.1).1, (s.1.1.2.1, s.1.1.2.2.1).2] : List (List Bool)), Conj [] (s, x) ∧ (true = true → Conj [fun s => (s.1.1.1.2.2.2).isSome = true, fun s => m_law_after_p (s.2, ((s.1.1.1.2.2.2).getD (0 : Int)), ("range" : Str), s.1.2, ())] (s, x)), fun s => (m_law_search_h13 s) = true → IxOk (m_law_search_v_sides_11 s) (0 : Int), fun s => (m_law_search_h13 s) = true → IxOk (m_law_search_v_sides_11 s) (1 : Int), fun s => (m_law_search_h13 s) = true → ((m_law_search_v_found_9 s)).length < sizeLine] s
def m_law_search_L6 (s : m_law_search_L5T) : m_law_search_L6M := LoopF (fun m x => m_law_search_L6s ((s, m), x)) (m_law_search_L6x s) (m_law_search_L6i s)
def m_law_search_L5s (s : m_law_search_L5T) : m_law_search_L5M := ((m_law_search_L6 s))
def m_law_search_L5c (s : m_law_search_L5T) : Prop := Conj [fun s => RgOk s.1.1.1.1.1, fun s => loopC (fun m x => m_law_search_L6c ((s, m), x)) (fun m x => m_law_search_L6s ((s, m), x)) (m_law_search_L6x s) (m_law_search_L6i s)] s
def m_law_search_L5 (s : m_law_search_L2T) : m_law_search_L5M := LoopF (fun m x => m_law_search_L5s ((s, m), x)) (m_law_search_L5x s) (m_law_search_L5i s)
def m_law_search_v_layer_15 (s : m_law_search_L2T) : (List ((List Bool) × (List Bool) × (Option Int))) := (uqL (dfT3 (dfSeq dfBool) (dfSeq dfBool) (dfOpt dfInt)).dec (((lcV (m_law_search_L5 s) (fun x => true) (fun x => ((s, x).2, true)))).map Prod.fst))
def m_law_search_L2s (s : m_law_search_L2T) : m_law_search_L2M := ((m_law_search_v_layer_15 s))
def m_law_search_L2c (s : m_law_search_L2T) : Prop := Conj [fun s => ∀ x ∈ s.1.2, Conj [] (s, x) ∧ ((((dfSeq dfBool)).eq (s, x).2.1 (s, x).2.2.1) = true → Conj [] (s, x)), fun s => (if (m_law_search_h3 s) = true then (some (some s.2)) else none) = none → Conj [fun s => loopC (fun m x => m_law_search_L5c ((s, m), x)) (fun m x => m_law_search_L5s ((s, m), x)) (m_law_search_L5x s) (m_law_search_L5i s), fun s => ∀ x ∈ (m_law_search_L5 s), Conj [] (s, x) ∧ (true = true → Conj [] (s, x))] s] s
def m_law_search_L2 (s : m_law_search_S) : m_law_search_L2M := LoopF (fun m x => m_law_search_L2s ((s, m), x)) (m_law_search_L2x s) (m_law_search_L2i s)
def m_law_search_L2r (s : m_law_search_L2T) : Option ((Option Int)) := (orElseO (if (m_law_search_h3 s) = true then (some (some s.2)) else none) none)
def m_law_search_L2R (s : m_law_search_S) : Option ((Option Int)) := LoopR (fun m x => m_law_search_L2r ((s, m), x)) (fun m x => m_law_search_L2s ((s, m), x)) (m_law_search_L2x s) (m_law_search_L2i s)
def m_law_search (s : m_law_search_S) : (Option Int) := hide ((orElse (m_law_search_L2R s) none))
def m_law_search_p (s : m_law_search_S) : Prop := Conj [fun s => RgOk (4 : Int), fun s => loopCr (fun m x => m_law_search_L2c ((s, m), x)) (fun m x => m_law_search_L2r ((s, m), x)) (fun m x => m_law_search_L2s ((s, m), x)) (m_law_search_L2x s) (m_law_search_L2i s), fun s => (m_law_search_L2R s) = none → Conj [] s] s
abbrev m_law_search_fm (K : PySem.W.Frag) : Fm K ((Option Int)) := ⟨[.fz (tInt K), .fz (tSeq (tBool K)), .fz (tSeq (tBool K))], .fz (tOpt (tInt K)), fun r => r, fun _ => ()⟩
abbrev m_law_runs_S : Type := (List (Int × Int)) × (List Bool) × Unit
def m_law_runs_v_found_1 (s : m_law_runs_S) : (List (Int × Int)) := ([] : List (Int × Int))
abbrev m_law_runs_L2M : Type := (List (Int × Int))
def m_law_runs_L2x (s : m_law_runs_S) : List (Int × (Int × Int)) := (enumL s.1)
def m_law_runs_L2i (s : m_law_runs_S) : m_law_runs_L2M := ((m_law_runs_v_found_1 s))
abbrev m_law_runs_L2T : Type := (m_law_runs_S × m_law_runs_L2M) × (Int × (Int × Int))
def m_law_runs_v_found_3 (s : m_law_runs_L2T) : (List (Int × Int)) := (setI s.1.2 (-(1 : Int)) ((ixI ((0 : Int), (0 : Int)) s.1.2 (-(1 : Int))).1, s.2.2.2))
def m_law_runs_v_found_4 (s : m_law_runs_L2T) : (List (Int × Int)) := (s.1.2 ++ [(s.2.2.1, s.2.2.2)])
def m_law_runs_h5 (s : m_law_runs_L2T) : Bool := (ixI false s.1.1.2.1 s.2.1)
def m_law_runs_v_found_6 (s : m_law_runs_L2T) : (List (Int × Int)) := (if (m_law_runs_h5 s) = true then (m_law_runs_v_found_4 s) else s.1.2)
def m_law_runs_h7 (s : m_law_runs_L2T) : Bool := ((ixI false s.1.1.2.1 s.2.1) && ((decide ((0 : Int) < s.2.1)) && (ixI false s.1.1.2.1 (s.2.1 - (1 : Int)))))
def m_law_runs_v_found_8 (s : m_law_runs_L2T) : (List (Int × Int)) := (if (m_law_runs_h7 s) = true then (m_law_runs_v_found_3 s) else (m_law_runs_v_found_6 s))
def m_law_runs_L2s (s : m_law_runs_L2T) : m_law_runs_L2M := ((m_law_runs_v_found_8 s))
def m_law_runs_L2c (s : m_law_runs_L2T) : Prop := Conj [fun s => IxOk s.1.1.2.1 s.2.1, fun s => (ixI false s.1.1.2.1 s.2.1) = true → (decide ((0 : Int) < s.2.1)) = true → IxOk s.1.1.2.1 (s.2.1 - (1 : Int)), fun s => (m_law_runs_h7 s) = true → IxOk s.1.2 (-(1 : Int)), fun s => (m_law_runs_h7 s) = true → IxOk s.1.2 (-(1 : Int)), fun s => (m_law_runs_h7 s) = false → IxOk s.1.1.2.1 s.2.1, fun s => (m_law_runs_h7 s) = false → (m_law_runs_h5 s) = true → (s.1.2).length < sizeLine] s
def m_law_runs_L2 (s : m_law_runs_S) : m_law_runs_L2M := LoopF (fun m x => m_law_runs_L2s ((s, m), x)) (m_law_runs_L2x s) (m_law_runs_L2i s)
def m_law_runs (s : m_law_runs_S) : (List (Int × Int)) := hide ((m_law_runs_L2 s))
def m_law_runs_p (s : m_law_runs_S) : Prop := Conj [fun s => loopC (fun m x => m_law_runs_L2c ((s, m), x)) (fun m x => m_law_runs_L2s ((s, m), x)) (m_law_runs_L2x s) (m_law_runs_L2i s)] s
abbrev m_law_runs_fm (K : PySem.W.Frag) : Fm K ((List (Int × Int))) := ⟨[.fz (tList (tTp [(tInt K), (tInt K)])), .fz (tSeq (tBool K))], .ow (oList (tTp [(tInt K), (tInt K)])), fun r => r, fun _ => ()⟩
abbrev mis_integer_S : Type := Int × Int × Int × Unit
def mis_integer (s : mis_integer_S) : Bool := hide ((true && ((!false) && (pLe s.2.1 s.1 && pLe s.1 s.2.2.1))))
def mis_integer_p (s : mis_integer_S) : Prop := Conj [] s
abbrev mis_integer_fm (K : PySem.W.Frag) : Fm K (Bool) := ⟨[.fz (tInt K), .fz (tInt K), .fz (tInt K)], .fz (tBool K), fun r => r, fun _ => ()⟩
abbrev mcheck_items_S : Type := Int × Unit
def mcheck_items_c1 (s : mcheck_items_S) : Bool := mis_integer (s.1, (1 : Int), (1000000000000000000000000000000 : Int), ())
def mcheck_items (s : mcheck_items_S) : Unit := hide (())
def mcheck_items_p (s : mcheck_items_S) : Prop := Conj [fun s => mis_integer_p (s.1, (1 : Int), (1000000000000000000000000000000 : Int), ()), fun s => (!(mcheck_items_c1 s)) = true → False] s
abbrev mcheck_items_fm (K : PySem.W.Frag) : Fm K (Unit) := ⟨[.fz (tInt K)], .fz (tNone K), fun r => r, fun _ => ()⟩
abbrev mis_run_S : Type := Int × (Int × Int) × Unit
def mis_run_c1 (s : mis_run_S) : Bool := mis_integer (s.2.1.1, (0 : Int), (s.1 - (1 : Int)), ())
def mis_run_c2 (s : mis_run_S) : Bool := mis_integer (s.2.1.2, s.2.1.1, (s.1 - (1 : Int)), ())
def mis_run (s : mis_run_S) : Bool := hide ((if ((!true) || ((!(dfInt).eq (2 : Int) (2 : Int)) || (!(mis_run_c1 s)))) = true then false else (mis_run_c2 s)))
def mis_run_p (s : mis_run_S) : Prop := Conj [fun s => (!true) = false → (!(dfInt).eq (2 : Int) (2 : Int)) = false → mis_integer_p (s.2.1.1, (0 : Int), (s.1 - (1 : Int)), ()), fun s => if ((!true) || ((!(dfInt).eq (2 : Int) (2 : Int)) || (!(mis_run_c1 s)))) = true then Conj [] s else Conj [fun s => mis_integer_p (s.2.1.2, s.2.1.1, (s.1 - (1 : Int)), ())] s] s
abbrev mis_run_fm (K : PySem.W.Frag) : Fm K (Bool) := ⟨[.fz (tInt K), .fz (tTp [(tInt K), (tInt K)])], .fz (tBool K), fun r => r, fun _ => ()⟩
abbrev mare_runs_S : Type := Int × (List (Int × Int)) × Unit
def mare_runs_c1 (s : (mare_runs_S × (Int × Int))) : Bool := mis_run (s.1.1, s.2, ())
def mare_runs (s : mare_runs_S) : Bool := hide ((if ((!true) || (!(((lcV s.2.1 (fun x => true) (fun x => (mare_runs_c1 (s, x))))).all id))) = true then false else (((lcV (List.zip s.2.1 (cutL s.2.1 (some (1 : Int)) none)) (fun x => true) (fun x => (decide (((s, x).2.1.2 + (1 : Int)) < (s, x).2.2.1))))).all id)))
def mare_runs_p (s : mare_runs_S) : Prop := Conj [fun s => (!true) = false → ∀ x ∈ s.2.1, Conj [] (s, x) ∧ (true = true → Conj [fun s => mis_run_p (s.1.1, s.2, ())] (s, x)), fun s => if ((!true) || (!(((lcV s.2.1 (fun x => true) (fun x => (mare_runs_c1 (s, x))))).all id))) = true then Conj [] s else Conj [fun s => ∀ x ∈ (List.zip s.2.1 (cutL s.2.1 (some (1 : Int)) none)), Conj [] (s, x) ∧ (true = true → Conj [] (s, x))] s] s
abbrev mare_runs_fm (K : PySem.W.Frag) : Fm K (Bool) := ⟨[.fz (tInt K), .fz (tList (tTp [(tInt K), (tInt K)]))], .fz (tBool K), fun r => r, fun _ => ()⟩
abbrev mcheck_selection_S : Type := Int × (List (Int × Int)) × Unit
def mcheck_selection_c1 (s : mcheck_selection_S) : Bool := mare_runs (s.1, s.2.1, ())
def mcheck_selection (s : mcheck_selection_S) : Unit := hide (())
def mcheck_selection_p (s : mcheck_selection_S) : Prop := Conj [fun s => mare_runs_p (s.1, s.2.1, ()), fun s => (!(mcheck_selection_c1 s)) = true → False] s
abbrev mcheck_selection_fm (K : PySem.W.Frag) : Fm K (Unit) := ⟨[.fz (tInt K), .fz (tList (tTp [(tInt K), (tInt K)]))], .fz (tNone K), fun r => r, fun _ => ()⟩
abbrev mcheck_both_S : Type := Int × (List (Int × Int)) × (List (Int × Int)) × Unit
def mcheck_both_c1 (s : mcheck_both_S) : Unit := mcheck_items (s.1, ())
def mcheck_both_c2 (s : mcheck_both_S) : Unit := mcheck_selection (s.1, s.2.1, ())
def mcheck_both_c3 (s : mcheck_both_S) : Unit := mcheck_selection (s.1, s.2.2.1, ())
def mcheck_both (s : mcheck_both_S) : Unit := hide (())
def mcheck_both_p (s : mcheck_both_S) : Prop := Conj [fun s => mcheck_items_p (s.1, ()), fun s => mcheck_selection_p (s.1, s.2.1, ()), fun s => mcheck_selection_p (s.1, s.2.2.1, ())] s
abbrev mcheck_both_fm (K : PySem.W.Frag) : Fm K (Unit) := ⟨[.fz (tInt K), .fz (tList (tTp [(tInt K), (tInt K)])), .fz (tList (tTp [(tInt K), (tInt K)]))], .fz (tNone K), fun r => r, fun _ => ()⟩
abbrev mborders_in_S : Type := (List (Int × Int)) × Unit
def mborders_in_v_borders_1 (s : mborders_in_S) : (List Int) := ([] : List Int)
abbrev mborders_in_L2M : Type := (List Int)
def mborders_in_L2x (s : mborders_in_S) : List (Int × Int) := s.1
def mborders_in_L2i (s : mborders_in_S) : mborders_in_L2M := ((mborders_in_v_borders_1 s))
abbrev mborders_in_L2T : Type := (mborders_in_S × mborders_in_L2M) × (Int × Int)
def mborders_in_v_borders_3 (s : mborders_in_L2T) : (List Int) := (s.1.2 ++ ([s.2.1, (s.2.2 + (1 : Int))] : List Int))
def mborders_in_L2s (s : mborders_in_L2T) : mborders_in_L2M := ((mborders_in_v_borders_3 s))
def mborders_in_L2c (s : mborders_in_L2T) : Prop := Conj [fun s => (s.1.2).length + (([s.2.1, (s.2.2 + (1 : Int))] : List Int)).length ≤ sizeLine] s
def mborders_in_L2 (s : mborders_in_S) : mborders_in_L2M := LoopF (fun m x => mborders_in_L2s ((s, m), x)) (mborders_in_L2x s) (mborders_in_L2i s)
def mborders_in (s : mborders_in_S) : (List Int) := hide ((mborders_in_L2 s))
def mborders_in_p (s : mborders_in_S) : Prop := Conj [fun s => loopC (fun m x => mborders_in_L2c ((s, m), x)) (fun m x => mborders_in_L2s ((s, m), x)) (mborders_in_L2x s) (mborders_in_L2i s)] s
abbrev mborders_in_fm (K : PySem.W.Frag) : Fm K ((List Int)) := ⟨[.fz (tList (tTp [(tInt K), (tInt K)]))], .ow (oList (tInt K)), fun r => r, fun _ => ()⟩
abbrev mfrom_borders_S : Type := (List Int) × Unit
def mfrom_borders (s : mfrom_borders_S) : (List (Int × Int)) := hide ((lcV (List.zip (stepL s.1 none none (some (2 : Int))) (stepL s.1 (some (1 : Int)) none (some (2 : Int)))) (fun x => true) (fun x => ((s, x).2.1, ((s, x).2.2 - (1 : Int))))))
def mfrom_borders_p (s : mfrom_borders_S) : Prop := Conj [fun s => ∀ x ∈ (List.zip (stepL s.1 none none (some (2 : Int))) (stepL s.1 (some (1 : Int)) none (some (2 : Int)))), Conj [] (s, x) ∧ (true = true → Conj [] (s, x))] s
abbrev mfrom_borders_fm (K : PySem.W.Frag) : Fm K ((List (Int × Int))) := ⟨[.fz (tList (tInt K))], .ow (oList (tTp [(tInt K), (tInt K)])), fun r => r, fun _ => ()⟩
abbrev mdiffering_runs_S : Type := (List Int) × (List Int) × Unit
def mdiffering_runs_v_known_1 (s : mdiffering_runs_S) : (List Int) := (dcV s.2.1 (fun x => true) (fun x => (s, x).2))
def mdiffering_runs_v_own_2 (s : mdiffering_runs_S) : (List Int) := (dcV s.1 (fun x => true) (fun x => (s, x).2))
def mdiffering_runs_v_found_3 (s : mdiffering_runs_S) : (List Int) := (lcV s.1 (fun x => (!decide ((s, x).2 ∈ (mdiffering_runs_v_known_1 (s, x).1)))) (fun x => (s, x).2))
def mdiffering_runs_c4 (s : mdiffering_runs_S) : (List (Int × Int)) := mfrom_borders ((sortI ((mdiffering_runs_v_found_3 s) ++ (lcV s.2.1 (fun x => (!decide ((s, x).2 ∈ (mdiffering_runs_v_own_2 (s, x).1)))) (fun x => (s, x).2)))), ())
def mdiffering_runs (s : mdiffering_runs_S) : (List (Int × Int)) := hide ((mdiffering_runs_c4 s))
def mdiffering_runs_p (s : mdiffering_runs_S) : Prop := Conj [fun s => ∀ x ∈ s.2.1, Conj [] (s, x) ∧ (true = true → Conj [] (s, x) ∧ Conj [] (s, x)), fun s => ∀ x ∈ s.1, Conj [] (s, x) ∧ (true = true → Conj [] (s, x) ∧ Conj [] (s, x)), fun s => ∀ x ∈ s.1, Conj [] (s, x) ∧ ((!decide ((s, x).2 ∈ (mdiffering_runs_v_known_1 (s, x).1))) = true → Conj [] (s, x)), fun s => ∀ x ∈ s.2.1, Conj [] (s, x) ∧ ((!decide ((s, x).2 ∈ (mdiffering_runs_v_own_2 (s, x).1))) = true → Conj [] (s, x)), fun s => ((mdiffering_runs_v_found_3 s)).length + ((lcV s.2.1 (fun x => (!decide ((s, x).2 ∈ (mdiffering_runs_v_own_2 (s, x).1)))) (fun x => (s, x).2))).length ≤ sizeLine, fun s => mfrom_borders_p ((sortI ((mdiffering_runs_v_found_3 s) ++ (lcV s.2.1 (fun x => (!decide ((s, x).2 ∈ (mdiffering_runs_v_own_2 (s, x).1)))) (fun x => (s, x).2)))), ())] s
abbrev mdiffering_runs_fm (K : PySem.W.Frag) : Fm K ((List (Int × Int))) := ⟨[.fz (tList (tInt K)), .fz (tList (tInt K))], .ow (oList (tTp [(tInt K), (tInt K)])), fun r => r, fun _ => ()⟩
abbrev mclicks_to_meet_S : Type := Int × (List (Int × Int)) × (List (Int × Int)) × Unit
def mclicks_to_meet_c1 (s : mclicks_to_meet_S) : (List Int) := mborders_in (s.2.1, ())
def mclicks_to_meet_c2 (s : mclicks_to_meet_S) : (List Int) := mborders_in (s.2.2.1, ())
def mclicks_to_meet_c3 (s : mclicks_to_meet_S) : (List (Int × Int)) := mdiffering_runs ((mclicks_to_meet_c1 s), (mclicks_to_meet_c2 s), ())
def mclicks_to_meet_v_first_4 (s : mclicks_to_meet_S) : Int := (ixI ((0 : Int), (0 : Int)) (mclicks_to_meet_c3 s) (0 : Int)).1
def mclicks_to_meet_v_last_5 (s : mclicks_to_meet_S) : Int := (ixI ((0 : Int), (0 : Int)) (mclicks_to_meet_c3 s) (-(1 : Int))).2
def mclicks_to_meet (s : mclicks_to_meet_S) : (Option (List (Str × Int))) := hide ((if (((dfList (dfT2 dfInt dfInt))).eq (mclicks_to_meet_c3 s) ([] : List (Int × Int))) = true then (some ([] : List (Str × Int))) else (if (decide ((0 : Int) < (mclicks_to_meet_v_first_4 s))) = true then (some ([(("click" : Str), (0 : Int)), (("range" : Str), (mclicks_to_meet_v_last_5 s))] : List (Str × Int))) else (if (decide ((mclicks_to_meet_v_last_5 s) < (s.1 - (1 : Int)))) = true then (some ([(("click" : Str), (s.1 - (1 : Int))), (("range" : Str), (mclicks_to_meet_v_first_4 s))] : List (Str × Int))) else (if ((dfInt).eq (((mclicks_to_meet_c3 s)).length : Int) (1 : Int)) = true then none else (some ([(("click" : Str), ((ixI ((0 : Int), (0 : Int)) (mclicks_to_meet_c3 s) (0 : Int)).2 + (1 : Int))), (("range" : Str), (mclicks_to_meet_v_first_4 s)), (("range" : Str), (mclicks_to_meet_v_last_5 s))] : List (Str × Int))))))))
def mclicks_to_meet_p (s : mclicks_to_meet_S) : Prop := Conj [fun s => mborders_in_p (s.2.1, ()), fun s => mborders_in_p (s.2.2.1, ()), fun s => mdiffering_runs_p ((mclicks_to_meet_c1 s), (mclicks_to_meet_c2 s), ()), fun s => if (((dfList (dfT2 dfInt dfInt))).eq (mclicks_to_meet_c3 s) ([] : List (Int × Int))) = true then Conj [] s else Conj [fun s => IxOk (mclicks_to_meet_c3 s) (0 : Int), fun s => IxOk (mclicks_to_meet_c3 s) (-(1 : Int)), fun s => if (decide ((0 : Int) < (mclicks_to_meet_v_first_4 s))) = true then Conj [] s else Conj [fun s => if (decide ((mclicks_to_meet_v_last_5 s) < (s.1 - (1 : Int)))) = true then Conj [] s else Conj [fun s => if ((dfInt).eq (((mclicks_to_meet_c3 s)).length : Int) (1 : Int)) = true then Conj [] s else Conj [fun s => IxOk (mclicks_to_meet_c3 s) (0 : Int)] s] s] s] s] s
abbrev mclicks_to_meet_fm (K : PySem.W.Frag) : Fm K ((Option (List (Str × Int)))) := ⟨[.fz (tInt K), .fz (tList (tTp [(tInt K), (tInt K)])), .fz (tList (tTp [(tInt K), (tInt K)]))], .fz (tOpt (tList (tTp [(tStr K), (tInt K)]))), fun r => r, fun _ => ()⟩
abbrev mmeeting_clicks_S : Type := Int × (List (Int × Int)) × (List (Int × Int)) × Unit
def mmeeting_clicks_c1 (s : mmeeting_clicks_S) : Unit := mcheck_both (s.1, s.2.1, s.2.2.1, ())
def mmeeting_clicks_c2 (s : mmeeting_clicks_S) : (Option (List (Str × Int))) := mclicks_to_meet (s.1, s.2.1, s.2.2.1, ())
def mmeeting_clicks (s : mmeeting_clicks_S) : (Option (List (Str × Int))) := hide ((mmeeting_clicks_c2 s))
def mmeeting_clicks_p (s : mmeeting_clicks_S) : Prop := Conj [fun s => mcheck_both_p (s.1, s.2.1, s.2.2.1, ()), fun s => mclicks_to_meet_p (s.1, s.2.1, s.2.2.1, ())] s
abbrev mmeeting_clicks_fm (K : PySem.W.Frag) : Fm K ((Option (List (Str × Int)))) := ⟨[.fz (tInt K), .fz (tList (tTp [(tInt K), (tInt K)])), .fz (tList (tTp [(tInt K), (tInt K)]))], .fz (tOpt (tList (tTp [(tStr K), (tInt K)]))), fun r => r, fun _ => ()⟩
abbrev mfewest_to_meet_S : Type := Int × (List (Int × Int)) × (List (Int × Int)) × Unit
def mfewest_to_meet_c1 (s : mfewest_to_meet_S) : (Option (List (Str × Int))) := mmeeting_clicks (s.1, s.2.1, s.2.2.1, ())
def mfewest_to_meet (s : mfewest_to_meet_S) : (Option Int) := hide ((if ((mfewest_to_meet_c1 s)).isNone = true then none else (some (((((mfewest_to_meet_c1 s)).getD ([] : List (Str × Int)))).length : Int))))
def mfewest_to_meet_p (s : mfewest_to_meet_S) : Prop := Conj [fun s => mmeeting_clicks_p (s.1, s.2.1, s.2.2.1, ()), fun s => ((mfewest_to_meet_c1 s)).isNone = false → ((mfewest_to_meet_c1 s)).isSome = true] s
abbrev mfewest_to_meet_fm (K : PySem.W.Frag) : Fm K ((Option Int)) := ⟨[.fz (tInt K), .fz (tList (tTp [(tInt K), (tInt K)])), .fz (tList (tTp [(tInt K), (tInt K)]))], .fz (tOpt (tInt K)), fun r => r, fun _ => ()⟩
abbrev m_law_right_S : Type := Int × (List Bool) × (List Bool) × Unit
def m_law_right_c1 (s : m_law_right_S) : (Option Int) := m_law_search (s.1, s.2.1, s.2.2.1, ())
def m_law_right_v_segments_2 (s : m_law_right_S) : (List (Int × Int)) := (lcV (rangeL s.1) (fun x => true) (fun x => ((s, x).2, (s, x).2)))
def m_law_right_c3 (s : m_law_right_S) : (List (Int × Int)) := m_law_runs ((m_law_right_v_segments_2 s), s.2.1, ())
def m_law_right_c4 (s : m_law_right_S) : (List (Int × Int)) := m_law_runs ((m_law_right_v_segments_2 s), s.2.2.1, ())
def m_law_right_v_before_5 (s : m_law_right_S) : Str := (reprOf (dfList (dfList (dfT2 dfInt dfInt))) ([(m_law_right_c3 s), (m_law_right_c4 s)] : List (List (Int × Int))))
def m_law_right_c6 (s : m_law_right_S) : (Option Int) := mfewest_to_meet (s.1, (m_law_right_c3 s), (m_law_right_c4 s), ())
def m_law_right_c7 (s : m_law_right_S) : (Option Int) := mfewest_to_meet (s.1, (m_law_right_c3 s), (m_law_right_c4 s), ())
def m_law_right_v_told_8 (s : m_law_right_S) : (List (Option Int)) := ([(m_law_right_c6 s), (m_law_right_c7 s)] : List (Option Int))
def m_law_right (s : m_law_right_S) : Bool := hide ((if ((((dfList dfInt)).eq (lcV (List.zip s.2.1 s.2.2.1) (fun x => ((dfBool).eq (s, x).2.1 (s, x).2.2)) (fun x => (1 : Int))) ([] : List Int)) && ((m_law_right_c1 s)).isSome) = true then false else ((decide ((reprOf (dfList (dfOpt dfInt)) (m_law_right_v_told_8 s)) = (reprOf (dfList (dfOpt dfInt)) ([(m_law_right_c1 s), (m_law_right_c1 s)] : List (Option Int))))) && (decide ((reprOf (dfList (dfList (dfT2 dfInt dfInt))) ([(m_law_right_c3 s), (m_law_right_c4 s)] : List (List (Int × Int)))) = (m_law_right_v_before_5 s))))))
def m_law_right_p (s : m_law_right_S) : Prop := Conj [fun s => RgOk s.1, fun s => ∀ x ∈ (rangeL s.1), Conj [] (s, x) ∧ (true = true → Conj [] (s, x)), fun s => m_law_search_p (s.1, s.2.1, s.2.2.1, ()), fun s => m_law_runs_p ((m_law_right_v_segments_2 s), s.2.1, ()), fun s => m_law_runs_p ((m_law_right_v_segments_2 s), s.2.2.1, ()), fun s => ShowOk (dfList (dfList (dfT2 dfInt dfInt))) ([(m_law_right_c3 s), (m_law_right_c4 s)] : List (List (Int × Int))), fun s => mfewest_to_meet_p (s.1, (m_law_right_c3 s), (m_law_right_c4 s), ()), fun s => mfewest_to_meet_p (s.1, (m_law_right_c3 s), (m_law_right_c4 s), ()), fun s => ∀ x ∈ (List.zip s.2.1 s.2.2.1), Conj [] (s, x) ∧ (((dfBool).eq (s, x).2.1 (s, x).2.2) = true → Conj [] (s, x)), fun s => if ((((dfList dfInt)).eq (lcV (List.zip s.2.1 s.2.2.1) (fun x => ((dfBool).eq (s, x).2.1 (s, x).2.2)) (fun x => (1 : Int))) ([] : List Int)) && ((m_law_right_c1 s)).isSome) = true then Conj [] s else Conj [fun s => ShowOk (dfList (dfOpt dfInt)) (m_law_right_v_told_8 s), fun s => ShowOk (dfList (dfOpt dfInt)) ([(m_law_right_c1 s), (m_law_right_c1 s)] : List (Option Int)), fun s => (decide ((reprOf (dfList (dfOpt dfInt)) (m_law_right_v_told_8 s)) = (reprOf (dfList (dfOpt dfInt)) ([(m_law_right_c1 s), (m_law_right_c1 s)] : List (Option Int))))) = true → ShowOk (dfList (dfList (dfT2 dfInt dfInt))) ([(m_law_right_c3 s), (m_law_right_c4 s)] : List (List (Int × Int)))] s] s
abbrev m_law_right_fm (K : PySem.W.Frag) : Fm K (Bool) := ⟨[.fz (tInt K), .fz (tSeq (tBool K)), .fz (tSeq (tBool K))], .fz (tBool K), fun r => r, fun _ => ()⟩
abbrev mlaw_S : Type := (List Int) × Unit
abbrev mlaw_L1M : Type := Unit
def mlaw_L1x (s : mlaw_S) : List Int := (rangeL (max (1 : Int) (min (4 : Int) ((s.1).length : Int))))
def mlaw_L1i (s : mlaw_S) : mlaw_L1M := ()
abbrev mlaw_L1T : Type := (mlaw_S × mlaw_L1M) × Int
def mlaw_c2 (s : mlaw_L1T) : Int := m_law_cell_at (s.1.1.1, s.2, ())
def mlaw_c3 (s : mlaw_L1T) : (List Int) := m_law_pool ((mlaw_c2 s), s.2, ())
abbrev mlaw_L4M : Type := (List Int)
def mlaw_L4x (s : mlaw_L1T) : List Int := (rangeL (10 : Int))
def mlaw_L4i (s : mlaw_L1T) : mlaw_L4M := ((mlaw_c3 s))
abbrev mlaw_L4T : Type := (mlaw_L1T × mlaw_L4M) × Int
def mlaw_c5 (s : mlaw_L4T) : (List Int) × Int := m_law_draw (s.1.2, (if (((dfList dfInt)).eq s.1.1.1.1.1 ([] : List Int)) = true then (3 : Int) else (4 : Int)), ())
def mlaw_v_size_6 (s : mlaw_L4T) : Int := ((1 : Int) + (mlaw_c5 s).2)
def mlaw_c7 (s : ((((mlaw_L4T × (List Int)) × Int) × (List Int)) × Int)) : (List Int) × Int := m_law_draw (s.1.2, (2 : Int), ())
def mlaw_v_pool_here_8 (s : mlaw_L4T) : (List Int) := (LoopF (fun m x => (LoopF (fun m1 x1 => (mlaw_c7 ((((s, m), x), m1), x1)).1) (rangeL (mlaw_v_size_6 ((s, m), x).1.1)) ((s, m), x).1.2)) (rangeL (2 : Int)) (mlaw_c5 s).1)
def mlaw_v_sides_9 (s : mlaw_L4T) : (List (List Bool)) := (LcE (fun m x => ((LcE (fun m1 x1 => ((dfInt).eq (mlaw_c7 ((((s, m), x), m1), x1)).2 (0 : Int))) (fun m1 x1 => (mlaw_c7 ((((s, m), x), m1), x1)).1) (rangeL (mlaw_v_size_6 ((s, m), x).1.1)) ((s, m), x).1.2))) (fun m x => (LoopF (fun m1 x1 => (mlaw_c7 ((((s, m), x), m1), x1)).1) (rangeL (mlaw_v_size_6 ((s, m), x).1.1)) ((s, m), x).1.2)) (rangeL (2 : Int)) (mlaw_c5 s).1)
def mlaw_c10 (s : mlaw_L4T) : Bool := m_law_right ((mlaw_v_size_6 s), (ixI ([] : List Bool) (mlaw_v_sides_9 s) (0 : Int)), (ixI ([] : List Bool) (mlaw_v_sides_9 s) (1 : Int)), ())
def mlaw_h11 (s : mlaw_L4T) : Bool := (!(mlaw_c10 s))
def mlaw_L4s (s : mlaw_L4T) : mlaw_L4M := ((mlaw_v_pool_here_8 s))
def mlaw_L4c (s : mlaw_L4T) : Prop := Conj [fun s => m_law_draw_p (s.1.2, (if (((dfList dfInt)).eq s.1.1.1.1.1 ([] : List Int)) = true then (3 : Int) else (4 : Int)), ()), fun s => RgOk (2 : Int), fun s => loopC (fun m x => Conj [fun s => RgOk (mlaw_v_size_6 s.1.1), fun s => loopC (fun m x => Conj [fun s => m_law_draw_p (s.1.2, (2 : Int), ())] ((s, m), x)) (fun m x => (mlaw_c7 ((s, m), x)).1) (rangeL (mlaw_v_size_6 s.1.1)) s.1.2] ((s, m), x)) (fun m x => (LoopF (fun m1 x1 => (mlaw_c7 ((((s, m), x), m1), x1)).1) (rangeL (mlaw_v_size_6 ((s, m), x).1.1)) ((s, m), x).1.2)) (rangeL (2 : Int)) (mlaw_c5 s).1, fun s => IxOk (mlaw_v_sides_9 s) (0 : Int), fun s => IxOk (mlaw_v_sides_9 s) (1 : Int), fun s => m_law_right_p ((mlaw_v_size_6 s), (ixI ([] : List Bool) (mlaw_v_sides_9 s) (0 : Int)), (ixI ([] : List Bool) (mlaw_v_sides_9 s) (1 : Int)), ()), fun s => (if (mlaw_h11 s) = true then (some false) else none) = none → Conj [] s] s
def mlaw_L4 (s : mlaw_L1T) : mlaw_L4M := LoopF (fun m x => mlaw_L4s ((s, m), x)) (mlaw_L4x s) (mlaw_L4i s)
def mlaw_L4r (s : mlaw_L4T) : Option (Bool) := (orElseO (if (mlaw_h11 s) = true then (some false) else none) none)
def mlaw_L4R (s : mlaw_L1T) : Option (Bool) := LoopR (fun m x => mlaw_L4r ((s, m), x)) (fun m x => mlaw_L4s ((s, m), x)) (mlaw_L4x s) (mlaw_L4i s)
def mlaw_L1s (s : mlaw_L1T) : mlaw_L1M := ()
def mlaw_L1c (s : mlaw_L1T) : Prop := Conj [fun s => m_law_cell_at_p (s.1.1.1, s.2, ()), fun s => m_law_pool_p ((mlaw_c2 s), s.2, ()), fun s => RgOk (10 : Int), fun s => loopCr (fun m x => mlaw_L4c ((s, m), x)) (fun m x => mlaw_L4r ((s, m), x)) (fun m x => mlaw_L4s ((s, m), x)) (mlaw_L4x s) (mlaw_L4i s), fun s => (mlaw_L4R s) = none → Conj [] s] s
def mlaw_L1 (s : mlaw_S) : mlaw_L1M := LoopF (fun m x => mlaw_L1s ((s, m), x)) (mlaw_L1x s) (mlaw_L1i s)
def mlaw_L1r (s : mlaw_L1T) : Option (Bool) := (orElseO (mlaw_L4R s) none)
def mlaw_L1R (s : mlaw_S) : Option (Bool) := LoopR (fun m x => mlaw_L1r ((s, m), x)) (fun m x => mlaw_L1s ((s, m), x)) (mlaw_L1x s) (mlaw_L1i s)
def mlaw (s : mlaw_S) : Bool := hide ((orElse (mlaw_L1R s) true))
def mlaw_p (s : mlaw_S) : Prop := Conj [fun s => RgOk (max (1 : Int) (min (4 : Int) ((s.1).length : Int))), fun s => loopCr (fun m x => mlaw_L1c ((s, m), x)) (fun m x => mlaw_L1r ((s, m), x)) (fun m x => mlaw_L1s ((s, m), x)) (mlaw_L1x s) (mlaw_L1i s), fun s => (mlaw_L1R s) = none → Conj [] s] s
abbrev mlaw_fm (K : PySem.W.Frag) : Fm K (Bool) := ⟨[.fz (tScr K)], .fz (tBool K), fun r => r, fun _ => ()⟩
section
variable {P : Program} {w : World} {K : PySem.W.Frag} {mg : Str → Option Value} {base : Heap}
def topS (i : Nat) : Stmt := PySem.Challenge.pw_rangeclicks_k78_fewest_clicks_to_meet_by.main.body.getD i (.Pass ⟨0, 0, 0, 0⟩)
structure Tx (K : PySem.W.Frag) (mg : Str → Option Value) where
  a22 : Addr
  d22 : FuncData
  F22 : Fun K "_law_cell_at" "_law_cell_at" (topS 22) a22 d22
  g22 : mg "_law_cell_at" = some (.ref a22)
  b22 : Binds K d22 ["_law_script", "_law_k"] []
  a23 : Addr
  d23 : FuncData
  F23 : Fun K "_law_pool" "_law_pool" (topS 23) a23 d23
  g23 : mg "_law_pool" = some (.ref a23)
  b23 : Binds K d23 ["_law_cell", "_law_place"] []
  a24 : Addr
  d24 : FuncData
  F24 : Fun K "_law_draw" "_law_draw" (topS 24) a24 d24
  g24 : mg "_law_draw" = some (.ref a24)
  b24 : Binds K d24 ["_law_pool_here", "_law_many"] []
  a26 : Addr
  d26 : FuncData
  F26 : Fun K "_law_after" "_law_after" (topS 26) a26 d26
  g26 : mg "_law_after" = some (.ref a26)
  b26 : Binds K d26 ["_law_marks", "_law_anchor", "_law_kind", "_law_item"] []
  a27 : Addr
  d27 : FuncData
  F27 : Fun K "_law_search" "_law_search" (topS 27) a27 d27
  g27 : mg "_law_search" = some (.ref a27)
  b27 : Binds K d27 ["_law_size", "_law_one", "_law_two"] []
  a25 : Addr
  d25 : FuncData
  F25 : Fun K "_law_runs" "_law_runs" (topS 25) a25 d25
  g25 : mg "_law_runs" = some (.ref a25)
  b25 : Binds K d25 ["_law_segments", "_law_marks"] []
  a6 : Addr
  d6 : FuncData
  F6 : Fun K "is_integer" "is_integer" (topS 6) a6 d6
  g6 : mg "is_integer" = some (.ref a6)
  b6 : Binds K d6 ["value", "least", "most"] []
  a7 : Addr
  d7 : FuncData
  F7 : Fun K "check_items" "check_items" (topS 7) a7 d7
  g7 : mg "check_items" = some (.ref a7)
  b7 : Binds K d7 ["items"] []
  a8 : Addr
  d8 : FuncData
  F8 : Fun K "is_run" "is_run" (topS 8) a8 d8
  g8 : mg "is_run" = some (.ref a8)
  b8 : Binds K d8 ["items", "value"] []
  a9 : Addr
  d9 : FuncData
  F9 : Fun K "are_runs" "are_runs" (topS 9) a9 d9
  g9 : mg "are_runs" = some (.ref a9)
  b9 : Binds K d9 ["items", "value"] []
  a10 : Addr
  d10 : FuncData
  F10 : Fun K "check_selection" "check_selection" (topS 10) a10 d10
  g10 : mg "check_selection" = some (.ref a10)
  b10 : Binds K d10 ["items", "selection"] []
  a17 : Addr
  d17 : FuncData
  F17 : Fun K "check_both" "check_both" (topS 17) a17 d17
  g17 : mg "check_both" = some (.ref a17)
  b17 : Binds K d17 ["items", "selection", "other"] []
  a11 : Addr
  d11 : FuncData
  F11 : Fun K "borders_in" "borders_in" (topS 11) a11 d11
  g11 : mg "borders_in" = some (.ref a11)
  b11 : Binds K d11 ["selection"] []
  a12 : Addr
  d12 : FuncData
  F12 : Fun K "from_borders" "from_borders" (topS 12) a12 d12
  g12 : mg "from_borders" = some (.ref a12)
  b12 : Binds K d12 ["borders"] []
  a16 : Addr
  d16 : FuncData
  F16 : Fun K "differing_runs" "differing_runs" (topS 16) a16 d16
  g16 : mg "differing_runs" = some (.ref a16)
  b16 : Binds K d16 ["borders", "others"] []
  a18 : Addr
  d18 : FuncData
  F18 : Fun K "clicks_to_meet" "clicks_to_meet" (topS 18) a18 d18
  g18 : mg "clicks_to_meet" = some (.ref a18)
  b18 : Binds K d18 ["items", "selection", "other"] []
  a19 : Addr
  d19 : FuncData
  F19 : Fun K "meeting_clicks" "meeting_clicks" (topS 19) a19 d19
  g19 : mg "meeting_clicks" = some (.ref a19)
  b19 : Binds K d19 ["items", "selection", "other"] []
  a20 : Addr
  d20 : FuncData
  F20 : Fun K "fewest_to_meet" "fewest_to_meet" (topS 20) a20 d20
  g20 : mg "fewest_to_meet" = some (.ref a20)
  b20 : Binds K d20 ["items", "selection", "other"] []
  a28 : Addr
  d28 : FuncData
  F28 : Fun K "_law_right" "_law_right" (topS 28) a28 d28
  g28 : mg "_law_right" = some (.ref a28)
  b28 : Binds K d28 ["_law_size", "_law_one", "_law_two"] []
  a29 : Addr
  d29 : FuncData
  F29 : Fun K "law" "law" (topS 29) a29 d29
  g29 : mg "law" = some (.ref a29)
  b29 : Binds K d29 ["_law_script"] []
  bk20_0 : BindsK d20 ["items", "selection", "other"] 0 ["other", "selection", "items"] [2, 1, 0]
  n_all : mg "all" = none
  n_bool : mg "bool" = none
  n_dict : mg "dict" = none
  n_enumerate : mg "enumerate" = none
  n_int : mg "int" = none
  n_isinstance : mg "isinstance" = none
  n_len : mg "len" = none
  n_list : mg "list" = none
  n_max : mg "max" = none
  n_min : mg "min" = none
  n_range : mg "range" = none
  n_repr : mg "repr" = none
  n_sorted : mg "sorted" = none
  n_tuple : mg "tuple" = none
  n_zip : mg "zip" = none
  t_CLICK : Tok
  c_CLICK : mg "CLICK" = some (.str "click" t_CLICK)
  t_MOST_ITEMS : Tok
  c_MOST_ITEMS : mg "MOST_ITEMS" = some (.int 1000000000000000000000000000000 t_MOST_ITEMS)
  t_RANGE : Tok
  c_RANGE : mg "RANGE" = some (.str "range" t_RANGE)
theorem sc22 : FnScope ["_law_script", "_law_k"] ["_law_script", "_law_k"] (defScope (topS 22)) := ⟨rfl, rfl, rfl, by decide +kernel, rfl, by decide +kernel, by decide +kernel⟩
theorem sc23 : FnScope ["_law_cell", "_law_place"] ["_law_cell", "_law_place"] (defScope (topS 23)) := ⟨rfl, rfl, rfl, by decide +kernel, rfl, by decide +kernel, by decide +kernel⟩
theorem sc24 : FnScope ["_law_pool_here", "_law_many", "_law_stir", "_law_found"] ["_law_pool_here", "_law_many"] (defScope (topS 24)) := ⟨rfl, rfl, rfl, by decide +kernel, rfl, by decide +kernel, by decide +kernel⟩
theorem sc26 : FnScope ["_law_marks", "_law_anchor", "_law_kind", "_law_item", "_law_now", "_law_at"] ["_law_marks", "_law_anchor", "_law_kind", "_law_item"] (defScope (topS 26)) := ⟨rfl, rfl, rfl, by decide +kernel, rfl, by decide +kernel, by decide +kernel⟩
theorem sc27 : FnScope ["_law_size", "_law_one", "_law_two", "_law_layer", "_law_count", "_law_left", "_law_right_here", "_law_anchor", "_law_found", "_law_item", "_law_side", "_law_sides", "_law_one_state"] ["_law_size", "_law_one", "_law_two"] (defScope (topS 27)) := ⟨rfl, rfl, rfl, by decide +kernel, rfl, by decide +kernel, by decide +kernel⟩
theorem sc25 : FnScope ["_law_segments", "_law_marks", "_law_found", "_law_at", "_law_first", "_law_last"] ["_law_segments", "_law_marks"] (defScope (topS 25)) := ⟨rfl, rfl, rfl, by decide +kernel, rfl, by decide +kernel, by decide +kernel⟩
theorem sc6 : FnScope ["value", "least", "most"] ["value", "least", "most"] (defScope (topS 6)) := ⟨rfl, rfl, rfl, by decide +kernel, rfl, by decide +kernel, by decide +kernel⟩
theorem sc7 : FnScope ["items"] ["items"] (defScope (topS 7)) := ⟨rfl, rfl, rfl, by decide +kernel, rfl, by decide +kernel, by decide +kernel⟩
theorem sc8 : FnScope ["items", "value"] ["items", "value"] (defScope (topS 8)) := ⟨rfl, rfl, rfl, by decide +kernel, rfl, by decide +kernel, by decide +kernel⟩
theorem sc9 : FnScope ["items", "value", "run", "one", "other"] ["items", "value"] (defScope (topS 9)) := ⟨rfl, rfl, rfl, by decide +kernel, rfl, by decide +kernel, by decide +kernel⟩
theorem sc10 : FnScope ["items", "selection"] ["items", "selection"] (defScope (topS 10)) := ⟨rfl, rfl, rfl, by decide +kernel, rfl, by decide +kernel, by decide +kernel⟩
theorem sc17 : FnScope ["items", "selection", "other"] ["items", "selection", "other"] (defScope (topS 17)) := ⟨rfl, rfl, rfl, by decide +kernel, rfl, by decide +kernel, by decide +kernel⟩
theorem sc11 : FnScope ["selection", "borders", "first", "last"] ["selection"] (defScope (topS 11)) := ⟨rfl, rfl, rfl, by decide +kernel, rfl, by decide +kernel, by decide +kernel⟩
theorem sc12 : FnScope ["borders", "first", "end"] ["borders"] (defScope (topS 12)) := ⟨rfl, rfl, rfl, by decide +kernel, rfl, by decide +kernel, by decide +kernel⟩
theorem sc16 : FnScope ["borders", "others", "border", "known", "own", "found"] ["borders", "others"] (defScope (topS 16)) := ⟨rfl, rfl, rfl, by decide +kernel, rfl, by decide +kernel, by decide +kernel⟩
theorem sc18 : FnScope ["items", "selection", "other", "runs", "first", "last"] ["items", "selection", "other"] (defScope (topS 18)) := ⟨rfl, rfl, rfl, by decide +kernel, rfl, by decide +kernel, by decide +kernel⟩
theorem sc19 : FnScope ["items", "selection", "other"] ["items", "selection", "other"] (defScope (topS 19)) := ⟨rfl, rfl, rfl, by decide +kernel, rfl, by decide +kernel, by decide +kernel⟩
theorem sc20 : FnScope ["items", "selection", "other", "found"] ["items", "selection", "other"] (defScope (topS 20)) := ⟨rfl, rfl, rfl, by decide +kernel, rfl, by decide +kernel, by decide +kernel⟩
theorem sc28 : FnScope ["_law_size", "_law_one", "_law_two", "_law_at", "_law_segments", "_law_due", "_law_picked", "_law_matched", "_law_before", "_law_told", "_law_left", "_law_right_here"] ["_law_size", "_law_one", "_law_two"] (defScope (topS 28)) := ⟨rfl, rfl, rfl, by decide +kernel, rfl, by decide +kernel, by decide +kernel⟩
theorem sc29 : FnScope ["_law_script", "_law_k", "_law_pool_here", "_law_turn", "_law_size", "_law_side", "_law_at", "_law_sides"] ["_law_script"] (defScope (topS 29)) := ⟨rfl, rfl, rfl, by decide +kernel, rfl, by decide +kernel, by decide +kernel⟩
theorem m_law_cell_at_ok (T : Tx K mg) : FnG P w K mg base CX0 1 T.a22 T.d22 ["_law_script", "_law_k"] (SpOf (m_law_cell_at_fm K) m_law_cell_at_p m_law_cell_at) := by
  refine def_ok T.F22 sc22 rfl (by decide) fun cdv A outer s H E hr => ?_
  exact def_fin (Δ := ([.fz (tScr K) (fun (s : m_law_cell_at_S) => s.1), .fz (tInt K) (fun (s : m_law_cell_at_S) => s.2.1)] : Ctx K m_law_cell_at_S)) (p := m_law_cell_at_p) (fv := m_law_cell_at) (
    DR.if1 (h := fun (s : m_law_cell_at_S) => (decide (s.2.1 < ((s.1).length : Int)))) (Δ1 := ([.fz (tScr K) (fun (s : m_law_cell_at_S) => s.1), .fz (tInt K) (fun (s : m_law_cell_at_S) => s.2.1)] : Ctx K m_law_cell_at_S)) (DT.conv (DT.lt (DX.var (i := 1) rfl) (DX.len ll_scr T.n_len (DX.var (i := 0) rfl))) rfl rfl (by exact rfl)) (by exact trivial) (
      DR.ret (f := fun (s : m_law_cell_at_S) => (ixI (0 : Int) s.1 s.2.1)) (DX.ix ll_scr (0 : Int) (DX.var (i := 0) rfl) (DX.var (i := 1) rfl)) (OwnAll.all (by exact trivial)) (.fz (.fz .nil)) (by exact ⟨rfl, fun _ => HEq.rfl, fun _ => rfl⟩)
    ) (
      DR.ret (f := fun (s : m_law_cell_at_S) => (0 : Int)) DX.int (OwnAll.all (by exact trivial)) (.fz (.fz .nil)) (by exact ⟨rfl, fun _ => HEq.rfl, fun _ => rfl⟩)
    )
    ) (by exact fun _ => (hide_eq _).symm) (by exact fun _ h => h)
theorem m_law_pool_ok (T : Tx K mg) : FnG P w K mg base CX0 1 T.a23 T.d23 ["_law_cell", "_law_place"] (SpOf (m_law_pool_fm K) m_law_pool_p m_law_pool) := by
  refine def_ok T.F23 sc23 rfl (by decide) fun cdv A outer s H E hr => ?_
  exact def_fin (Δ := ([.fz (tInt K) (fun (s : m_law_pool_S) => s.1), .fz (tInt K) (fun (s : m_law_pool_S) => s.2.1)] : Ctx K m_law_pool_S)) (p := m_law_pool_p) (fv := m_law_pool) (
    DR.retO (f := fun (s : m_law_pool_S) => ([(max (s.1 - ((10 : Int) ^ ((18 : Int)).toNat)) (0 : Int)), (((s.1 % (2147483629 : Int)) + ((51001 : Int) * s.2.1)) % (2147483629 : Int)), (0 : Int)] : List Int)) (DO.lst (τ := (tInt K)) (DL.cons (DX.max2 T.n_max (DX.sub (DX.var (i := 0) rfl) (DX.pow DX.int DX.int)) DX.int) (DL.cons (DX.mod (DX.add (DX.mod (DX.var (i := 0) rfl) DX.int) (DX.mul DX.int (DX.var (i := 1) rfl))) DX.int) (DL.cons DX.int DL.nil))) (hl := fun _ => (by decide : 3 ≤ sizeLine))) (OwnAll.all (by exact trivial)) (.fz (.fz .nil)) (by exact ⟨rfl, fun _ => HEq.rfl, fun _ => rfl⟩)
    ) (by exact fun _ => (hide_eq _).symm) (by exact fun _ h => h)
theorem m_law_draw_ok (T : Tx K mg) : FnG P w K mg base CX0 1 T.a24 T.d24 ["_law_pool_here", "_law_many"] (SpOf (m_law_draw_fm K) m_law_draw_p m_law_draw) := by
  refine def_ok T.F24 sc24 rfl (by decide) fun cdv A outer s H E hr => ?_
  exact def_fin (Δ := ([.ow (oList (tInt K)) (fun (s : m_law_draw_S) => s.1), .fz (tInt K) (fun (s : m_law_draw_S) => s.2.1), .dead, .dead] : Ctx K m_law_draw_S)) (p := m_law_draw_p) (fv := m_law_draw) (
    DR.cons (Δ1 := ([.ow (oList (tInt K)) (fun (s : m_law_draw_S) => (m_law_draw_v_pool_here_1 s)), .fz (tInt K) (fun (s : m_law_draw_S) => s.2.1), .dead, .dead] : Ctx K m_law_draw_S)) (DS.conv (DS.store (DX.borrowE 0 rfl (DX.add (DX.ix (ll_list (τ := (tInt K))) (0 : Int) (DX.var (i := 0) rfl) DX.int) DX.int) lf_int (by show 0 ∉ ([] : List Nat); decide) (by exact trivial) (by exact trivial)) (DX.pu DX.int rfl rfl) (by exact trivial) (i := 0) rfl) rfl (by exact rfl)) <|
    DR.cons (Δ1 := ([.ow (oList (tInt K)) (fun (s : m_law_draw_S) => (m_law_draw_v_pool_here_1 s)), .fz (tInt K) (fun (s : m_law_draw_S) => s.2.1), .fz (tInt K) (fun (s : m_law_draw_S) => (m_law_draw_v_stir_2 s)), .dead] : Ctx K m_law_draw_S)) (DS.conv (DS.asg (DX.borrowE 0 rfl (DX.mod (DX.pow (DX.add (DX.add (DX.ix (ll_list (τ := (tInt K))) (0 : Int) (DX.var (i := 0) rfl) DX.int) (DX.mul (DX.mul DX.int (DX.ix (ll_list (τ := (tInt K))) (0 : Int) (DX.var (i := 0) rfl) DX.int)) (DX.ix (ll_list (τ := (tInt K))) (0 : Int) (DX.var (i := 0) rfl) DX.int))) DX.int) DX.int) DX.int) lf_int (by show 0 ∉ ([] : List Nat); decide) (by exact trivial) (by exact trivial)) (DG.name (i := 2) sc24.nd rfl (.inl rfl)) (by exact trivial) (by show ∀ j ∈ ([2] : List Nat), j ∉ ([0] : List Nat); decide)) rfl (by exact rfl)) <|
    DR.cons (Δ1 := ([.ow (oList (tInt K)) (fun (s : m_law_draw_S) => (m_law_draw_v_pool_here_3 s)), .fz (tInt K) (fun (s : m_law_draw_S) => s.2.1), .fz (tInt K) (fun (s : m_law_draw_S) => (m_law_draw_v_stir_2 s)), .dead] : Ctx K m_law_draw_S)) (DS.conv (DS.store (DX.borrowE 0 rfl (DX.mod (DX.add (DX.mul (DX.var (i := 2) rfl) DX.int) (DX.mul DX.int (DX.ix (ll_list (τ := (tInt K))) (0 : Int) (DX.var (i := 0) rfl) DX.int))) DX.int) lf_int (by show 0 ∉ ([] : List Nat); decide) (by exact trivial) (by exact trivial)) (DX.pu DX.int rfl rfl) (by exact trivial) (i := 0) rfl) rfl (by exact rfl)) <|
    DR.cons (Δ1 := ([.ow (oList (tInt K)) (fun (s : m_law_draw_S) => (m_law_draw_v_pool_here_3 s)), .fz (tInt K) (fun (s : m_law_draw_S) => s.2.1), .fz (tInt K) (fun (s : m_law_draw_S) => (m_law_draw_v_stir_2 s)), .fz (tInt K) (fun (s : m_law_draw_S) => (m_law_draw_v_found_4 s))] : Ctx K m_law_draw_S)) (DS.conv (DS.asg (DX.borrowE 0 rfl (DX.mod (DX.fdiv (DX.ix (ll_list (τ := (tInt K))) (0 : Int) (DX.var (i := 0) rfl) DX.int) DX.int) (DX.var (i := 1) rfl)) lf_int (by show 0 ∉ ([] : List Nat); decide) (by exact trivial) (by exact trivial)) (DG.name (i := 3) sc24.nd rfl (.inl rfl)) (by exact trivial) (by show ∀ j ∈ ([3] : List Nat), j ∉ ([0] : List Nat); decide)) rfl (by exact rfl)) <|
    DR.cons (Δ1 := ([.ow (oList (tInt K)) (fun (s : m_law_draw_S) => (m_law_draw_v_pool_here_8 s)), .fz (tInt K) (fun (s : m_law_draw_S) => s.2.1), .fz (tInt K) (fun (s : m_law_draw_S) => (m_law_draw_v_stir_2 s)), .fz (tInt K) (fun (s : m_law_draw_S) => (m_law_draw_v_found_9 s))] : Ctx K m_law_draw_S)) (DS.conv (DS.ite (h := fun (s : m_law_draw_S) => (m_law_draw_h7 s)) (Δ1 := ([.ow (oList (tInt K)) (fun (s : m_law_draw_S) => (m_law_draw_v_pool_here_3 s)), .fz (tInt K) (fun (s : m_law_draw_S) => s.2.1), .fz (tInt K) (fun (s : m_law_draw_S) => (m_law_draw_v_stir_2 s)), .fz (tInt K) (fun (s : m_law_draw_S) => (m_law_draw_v_found_4 s))] : Ctx K m_law_draw_S)) (Δa := ([.ow (oList (tInt K)) (fun (s : m_law_draw_S) => (m_law_draw_v_pool_here_6 s)), .fz (tInt K) (fun (s : m_law_draw_S) => s.2.1), .fz (tInt K) (fun (s : m_law_draw_S) => (m_law_draw_v_stir_2 s)), .fz (tInt K) (fun (s : m_law_draw_S) => (m_law_draw_v_found_5 s))] : Ctx K m_law_draw_S)) (Δb := ([.ow (oList (tInt K)) (fun (s : m_law_draw_S) => (m_law_draw_v_pool_here_3 s)), .fz (tInt K) (fun (s : m_law_draw_S) => s.2.1), .fz (tInt K) (fun (s : m_law_draw_S) => (m_law_draw_v_stir_2 s)), .fz (tInt K) (fun (s : m_law_draw_S) => (m_law_draw_v_found_4 s))] : Ctx K m_law_draw_S)) (DT.conv (DT.borrowE 0 rfl (DT.gt (DX.ix (ll_list (τ := (tInt K))) (0 : Int) (DX.var (i := 0) rfl) DX.int) DX.int) (by show 0 ∉ ([] : List Nat); decide) (by exact trivial) (by exact trivial)) rfl rfl (by exact rfl)) (by exact trivial) (
      DN.cons (Δ1 := ([.ow (oList (tInt K)) (fun (s : m_law_draw_S) => (m_law_draw_v_pool_here_3 s)), .fz (tInt K) (fun (s : m_law_draw_S) => s.2.1), .fz (tInt K) (fun (s : m_law_draw_S) => (m_law_draw_v_stir_2 s)), .fz (tInt K) (fun (s : m_law_draw_S) => (m_law_draw_v_found_5 s))] : Ctx K m_law_draw_S)) (DS.conv (DS.asg (DX.borrowE 0 rfl (DX.mod (DX.ix (ll_list (τ := (tInt K))) (0 : Int) (DX.var (i := 0) rfl) DX.int) (DX.var (i := 1) rfl)) lf_int (by show 0 ∉ ([] : List Nat); decide) (by exact trivial) (by exact trivial)) (DG.name (i := 3) sc24.nd rfl (.inl rfl)) (by exact trivial) (by show ∀ j ∈ ([3] : List Nat), j ∉ ([0] : List Nat); decide)) rfl (by exact rfl)) <|
      DN.cons (Δ1 := ([.ow (oList (tInt K)) (fun (s : m_law_draw_S) => (m_law_draw_v_pool_here_6 s)), .fz (tInt K) (fun (s : m_law_draw_S) => s.2.1), .fz (tInt K) (fun (s : m_law_draw_S) => (m_law_draw_v_stir_2 s)), .fz (tInt K) (fun (s : m_law_draw_S) => (m_law_draw_v_found_5 s))] : Ctx K m_law_draw_S)) (DS.conv (DS.store (DX.borrowE 0 rfl (DX.fdiv (DX.ix (ll_list (τ := (tInt K))) (0 : Int) (DX.var (i := 0) rfl) DX.int) (DX.var (i := 1) rfl)) lf_int (by show 0 ∉ ([] : List Nat); decide) (by exact trivial) (by exact trivial)) (DX.pu DX.int rfl rfl) (by exact trivial) (i := 0) rfl) rfl (by exact rfl)) <|
      DN.fin rfl
    ) (
      DN.fin rfl
    ) (.ow (.same (.same (.fz .nil))))) rfl rfl) <|
    DR.ret (f := fun (s : m_law_draw_S) => ((m_law_draw_v_pool_here_8 s), (m_law_draw_v_found_9 s))) (DX.var (i := 3) rfl) (OwnAll.all (by exact trivial)) (.mu rfl (.fz .nil)) (by exact ⟨rfl, fun _ => HEq.rfl, fun _ => rfl⟩)
    ) (by exact fun _ => (hide_eq _).symm) (by exact fun _ h => h)
theorem m_law_after_ok (T : Tx K mg) : FnG P w K mg base CX0 1 T.a26 T.d26 ["_law_marks", "_law_anchor", "_law_kind", "_law_item"] (SpOf (m_law_after_fm K) m_law_after_p m_law_after) := by
  refine def_ok T.F26 sc26 rfl (by decide) fun cdv A outer s H E hr => ?_
  exact def_fin (Δ := ([.fz (tSeq (tBool K)) (fun (s : m_law_after_S) => s.1), .fz (tInt K) (fun (s : m_law_after_S) => s.2.1), .fz (tStr K) (fun (s : m_law_after_S) => s.2.2.1), .fz (tInt K) (fun (s : m_law_after_S) => s.2.2.2.1), .dead, .dead] : Ctx K m_law_after_S)) (p := m_law_after_p) (fv := m_law_after) (
    DR.cons (Δ1 := ([.fz (tSeq (tBool K)) (fun (s : m_law_after_S) => s.1), .fz (tInt K) (fun (s : m_law_after_S) => s.2.1), .fz (tStr K) (fun (s : m_law_after_S) => s.2.2.1), .fz (tInt K) (fun (s : m_law_after_S) => s.2.2.2.1), .ow (oList (tBool K)) (fun (s : m_law_after_S) => (s.1)), .dead] : Ctx K m_law_after_S)) (DS.conv (DS.setO (DO.listSq T.n_list (DX.var (i := 0) rfl)) (by exact trivial) sc26.nd (i := 4) rfl (.inl rfl) (by show 4 ∉ ([] : List Nat); decide)) rfl (by exact rfl)) <|
    DR.cons (Δ1 := ([.fz (tSeq (tBool K)) (fun (s : m_law_after_S) => s.1), .fz (tInt K) (fun (s : m_law_after_S) => s.2.1), .fz (tStr K) (fun (s : m_law_after_S) => s.2.2.1), .fz (tInt K) (fun (s : m_law_after_S) => s.2.2.2.1), .ow (oList (tBool K)) (fun (s : m_law_after_S) => (m_law_after_v_now_5 s)), .dead] : Ctx K m_law_after_S)) (DS.conv (DS.ite (h := fun (s : m_law_after_S) => (m_law_after_h4 s)) (Δ1 := ([.fz (tSeq (tBool K)) (fun (s : m_law_after_S) => s.1), .fz (tInt K) (fun (s : m_law_after_S) => s.2.1), .fz (tStr K) (fun (s : m_law_after_S) => s.2.2.1), .fz (tInt K) (fun (s : m_law_after_S) => s.2.2.2.1), .ow (oList (tBool K)) (fun (s : m_law_after_S) => (s.1)), .dead] : Ctx K m_law_after_S)) (Δa := ([.fz (tSeq (tBool K)) (fun (s : m_law_after_S) => s.1), .fz (tInt K) (fun (s : m_law_after_S) => s.2.1), .fz (tStr K) (fun (s : m_law_after_S) => s.2.2.1), .fz (tInt K) (fun (s : m_law_after_S) => s.2.2.2.1), .ow (oList (tBool K)) (fun (s : m_law_after_S) => (m_law_after_v_now_1 s)), .dead] : Ctx K m_law_after_S)) (Δb := ([.fz (tSeq (tBool K)) (fun (s : m_law_after_S) => s.1), .fz (tInt K) (fun (s : m_law_after_S) => s.2.1), .fz (tStr K) (fun (s : m_law_after_S) => s.2.2.1), .fz (tInt K) (fun (s : m_law_after_S) => s.2.2.2.1), .ow (oList (tBool K)) (fun (s : m_law_after_S) => (m_law_after_L2 s)), .dead] : Ctx K m_law_after_S)) (DT.conv (DT.eq hr.rm dat_str (DX.var (i := 2) rfl) (DX.str (h := ok_str _)) (hn := n64 (m := 1) rfl)) rfl rfl (by exact rfl)) (by exact trivial) (
      DN.cons (Δ1 := ([.fz (tSeq (tBool K)) (fun (s : m_law_after_S) => s.1), .fz (tInt K) (fun (s : m_law_after_S) => s.2.1), .fz (tStr K) (fun (s : m_law_after_S) => s.2.2.1), .fz (tInt K) (fun (s : m_law_after_S) => s.2.2.2.1), .ow (oList (tBool K)) (fun (s : m_law_after_S) => (m_law_after_v_now_1 s)), .dead] : Ctx K m_law_after_S)) (DS.conv (DS.store (DX.borrowE 4 rfl (DX.not (DX.ix (τ := (tBool K)) (L := (tList (tBool K))) (ll_list (τ := (tBool K))) false (DX.var (i := 4) rfl) (DX.var (i := 3) rfl))) lf_bool (by show 4 ∉ ([] : List Nat); decide) (by exact trivial) (by exact trivial)) (DX.pu (DX.var (i := 3) rfl) rfl rfl) (by exact trivial) (i := 4) rfl) rfl (by exact rfl)) <|
      DN.fin rfl
    ) (
      DN.cons (Δ1 := ([.fz (tSeq (tBool K)) (fun (s : m_law_after_S) => s.1), .fz (tInt K) (fun (s : m_law_after_S) => s.2.1), .fz (tStr K) (fun (s : m_law_after_S) => s.2.2.1), .fz (tInt K) (fun (s : m_law_after_S) => s.2.2.2.1), .ow (oList (tBool K)) (fun (s : m_law_after_S) => (m_law_after_L2 s)), .dead] : Ctx K m_law_after_S)) (DS.conv (DS.forH (S := m_law_after_S) (M := m_law_after_L2M) (τ := (tInt K)) (init := fun s => m_law_after_L2i s) (step := fun s => m_law_after_L2s s) (fx := fun s => m_law_after_L2x s) (Δ1 := ([.fz (tSeq (tBool K)) (fun (s : m_law_after_S) => s.1), .fz (tInt K) (fun (s : m_law_after_S) => s.2.1), .fz (tStr K) (fun (s : m_law_after_S) => s.2.2.1), .fz (tInt K) (fun (s : m_law_after_S) => s.2.2.2.1), .ow (oList (tBool K)) (fun (s : m_law_after_S) => (s.1)), .dead] : Ctx K m_law_after_S)) (Δl := ([.fz (tSeq (tBool K)) (fun (s : (m_law_after_S × m_law_after_L2M)) => s.1.1), .fz (tInt K) (fun (s : (m_law_after_S × m_law_after_L2M)) => s.1.2.1), .fz (tStr K) (fun (s : (m_law_after_S × m_law_after_L2M)) => s.1.2.2.1), .fz (tInt K) (fun (s : (m_law_after_S × m_law_after_L2M)) => s.1.2.2.2.1), .ow (oList (tBool K)) (fun (s : (m_law_after_S × m_law_after_L2M)) => s.2), .dead] : Ctx K (m_law_after_S × m_law_after_L2M))) (Δb := ([.fz (tSeq (tBool K)) (fun (s : m_law_after_L2T) => s.1.1.1), .fz (tInt K) (fun (s : m_law_after_L2T) => s.1.1.2.1), .fz (tStr K) (fun (s : m_law_after_L2T) => s.1.1.2.2.1), .fz (tInt K) (fun (s : m_law_after_L2T) => s.1.1.2.2.2.1), .ow (oList (tBool K)) (fun (s : m_law_after_L2T) => s.1.2), .fz (tInt K) (fun (s : m_law_after_L2T) => s.2)] : Ctx K m_law_after_L2T)) (Δe := ([.fz (tSeq (tBool K)) (fun (s : m_law_after_L2T) => s.1.1.1), .fz (tInt K) (fun (s : m_law_after_L2T) => s.1.1.2.1), .fz (tStr K) (fun (s : m_law_after_L2T) => s.1.1.2.2.1), .fz (tInt K) (fun (s : m_law_after_L2T) => s.1.1.2.2.2.1), .ow (oList (tBool K)) (fun (s : m_law_after_L2T) => (m_law_after_v_now_3 s)), .fz (tInt K) (fun (s : m_law_after_L2T) => s.2)] : Ctx K m_law_after_L2T)) (DI.conv (DI.range2 T.n_range (DX.min2 T.n_min (DX.var (i := 1) rfl) (DX.var (i := 3) rfl)) (DX.add (DX.max2 T.n_max (DX.var (i := 1) rfl) (DX.var (i := 3) rfl)) DX.int)) rfl rfl (by exact rfl)) (by exact trivial) (.keep (.keep (.keep (.keep (.ow (ω := (oList (tBool K))) (fun (m : m_law_after_L2M) => m) (fun _ => by rfl) (.dead .nil)))))) (DG.name (i := 5) sc26.nd rfl (.inl rfl)) (by show ∀ j ∈ ([5] : List Nat), j ∉ ([] : List Nat); decide) (
        DN.cons (Δ1 := ([.fz (tSeq (tBool K)) (fun (s : m_law_after_L2T) => s.1.1.1), .fz (tInt K) (fun (s : m_law_after_L2T) => s.1.1.2.1), .fz (tStr K) (fun (s : m_law_after_L2T) => s.1.1.2.2.1), .fz (tInt K) (fun (s : m_law_after_L2T) => s.1.1.2.2.2.1), .ow (oList (tBool K)) (fun (s : m_law_after_L2T) => (m_law_after_v_now_3 s)), .fz (tInt K) (fun (s : m_law_after_L2T) => s.2)] : Ctx K m_law_after_L2T)) (DS.conv (DS.store (DX.ixSq (τ := (tBool K)) false (DX.var (i := 0) rfl) (DX.var (i := 1) rfl)) (DX.pu (DX.var (i := 5) rfl) rfl rfl) (by exact trivial) (i := 4) rfl) rfl (by exact rfl)) <|
        DN.fin rfl
      ) (.keep (sl := .fz (tSeq (tBool K)) (fun (s : m_law_after_S) => s.1)) (.keep (sl := .fz (tInt K) (fun (s : m_law_after_S) => s.2.1)) (.keep (sl := .fz (tStr K) (fun (s : m_law_after_S) => s.2.2.1)) (.keep (sl := .fz (tInt K) (fun (s : m_law_after_S) => s.2.2.2.1)) (.ow (ω := (oList (tBool K))) (pr := fun (m : m_law_after_L2M) => m) (fun _ => by rfl) (.dead .nil))))))) rfl rfl) <|
      DN.fin rfl
    ) (.same (.same (.same (.same (.ow (.same .nil))))))) rfl rfl) <|
    DR.ret (f := fun (s : m_law_after_S) => ((m_law_after_v_now_5 s))) (DX.borrowE 4 rfl (DX.tupOf T.n_tuple (DX.var (i := 4) rfl)) (lf_seq lf_bool) (by show 4 ∉ ([] : List Nat); decide) (by exact trivial) (by exact trivial)) (OwnAll.all (by exact trivial)) (.fz (.fz (.fz (.fz .nil)))) (by exact ⟨rfl, fun _ => HEq.rfl, fun _ => rfl⟩)
    ) (by exact fun _ => (hide_eq _).symm) (by exact fun _ h => h)
theorem m_law_search_ok (T : Tx K mg) : FnG P w K mg base CX0 2 T.a27 T.d27 ["_law_size", "_law_one", "_law_two"] (SpOf (m_law_search_fm K) m_law_search_p m_law_search) := by
  refine def_ok T.F27 sc27 rfl (by decide) fun cdv A outer s H E hr => ?_
  exact def_fin (Δ := ([.fz (tInt K) (fun (s : m_law_search_S) => s.1), .fz (tSeq (tBool K)) (fun (s : m_law_search_S) => s.2.1), .fz (tSeq (tBool K)) (fun (s : m_law_search_S) => s.2.2.1), .dead, .dead, .dead, .dead, .dead, .dead, .dead, .dead, .dead, .dead] : Ctx K m_law_search_S)) (p := m_law_search_p) (fv := m_law_search) (
    DR.cons (Δ1 := ([.fz (tInt K) (fun (s : m_law_search_S) => s.1), .fz (tSeq (tBool K)) (fun (s : m_law_search_S) => s.2.1), .fz (tSeq (tBool K)) (fun (s : m_law_search_S) => s.2.2.1), .fz (tList (tTp [(tSeq (tBool K)), (tSeq (tBool K)), (tOpt (tInt K))])) (fun (s : m_law_search_S) => (m_law_search_v_layer_1 s)), .dead, .dead, .dead, .dead, .dead, .dead, .dead, .dead, .dead] : Ctx K m_law_search_S)) (DS.conv (DS.asg (DX.ofL (DO.lst (τ := (tTp [(tSeq (tBool K)), (tSeq (tBool K)), (tOpt (tInt K))])) (DL.cons (DX.tup (DTs.cons (DX.var (i := 1) rfl) (DTs.cons (DX.var (i := 2) rfl) (DTs.one DX.nonO))) (hl := (by decide : 3 ≤ sizeLine))) DL.nil) (hl := fun _ => (by decide : 1 ≤ sizeLine)))) (DG.name (i := 3) sc27.nd rfl (.inl rfl)) (by exact trivial) (by show ∀ j ∈ ([3] : List Nat), j ∉ ([] : List Nat); decide)) rfl (by exact rfl)) <|
    DR.consM (Δ1 := ([.fz (tInt K) (fun (s : m_law_search_S) => s.1), .fz (tSeq (tBool K)) (fun (s : m_law_search_S) => s.2.1), .fz (tSeq (tBool K)) (fun (s : m_law_search_S) => s.2.2.1), .fz (tList (tTp [(tSeq (tBool K)), (tSeq (tBool K)), (tOpt (tInt K))])) (fun (s : m_law_search_S) => (m_law_search_L2 s)), .dead, .dead, .dead, .dead, .dead, .dead, .dead, .dead, .dead] : Ctx K m_law_search_S)) (r := fun s => m_law_search_L2R s) (DSm.conv (DSm.forH (r := fun s => m_law_search_L2r s) (S := m_law_search_S) (M := m_law_search_L2M) (τ := (tInt K)) (init := fun s => m_law_search_L2i s) (step := fun s => m_law_search_L2s s) (fx := fun s => m_law_search_L2x s) (Δ1 := ([.fz (tInt K) (fun (s : m_law_search_S) => s.1), .fz (tSeq (tBool K)) (fun (s : m_law_search_S) => s.2.1), .fz (tSeq (tBool K)) (fun (s : m_law_search_S) => s.2.2.1), .fz (tList (tTp [(tSeq (tBool K)), (tSeq (tBool K)), (tOpt (tInt K))])) (fun (s : m_law_search_S) => (m_law_search_v_layer_1 s)), .dead, .dead, .dead, .dead, .dead, .dead, .dead, .dead, .dead] : Ctx K m_law_search_S)) (Δl := ([.fz (tInt K) (fun (s : (m_law_search_S × m_law_search_L2M)) => s.1.1), .fz (tSeq (tBool K)) (fun (s : (m_law_search_S × m_law_search_L2M)) => s.1.2.1), .fz (tSeq (tBool K)) (fun (s : (m_law_search_S × m_law_search_L2M)) => s.1.2.2.1), .fz (tList (tTp [(tSeq (tBool K)), (tSeq (tBool K)), (tOpt (tInt K))])) (fun (s : (m_law_search_S × m_law_search_L2M)) => s.2), .dead, .dead, .dead, .dead, .dead, .dead, .dead, .dead, .dead] : Ctx K (m_law_search_S × m_law_search_L2M))) (Δb := ([.fz (tInt K) (fun (s : m_law_search_L2T) => s.1.1.1), .fz (tSeq (tBool K)) (fun (s : m_law_search_L2T) => s.1.1.2.1), .fz (tSeq (tBool K)) (fun (s : m_law_search_L2T) => s.1.1.2.2.1), .fz (tList (tTp [(tSeq (tBool K)), (tSeq (tBool K)), (tOpt (tInt K))])) (fun (s : m_law_search_L2T) => s.1.2), .fz (tInt K) (fun (s : m_law_search_L2T) => s.2), .dead, .dead, .dead, .dead, .dead, .dead, .dead, .dead] : Ctx K m_law_search_L2T)) (Δe := ([.fz (tInt K) (fun (s : m_law_search_L2T) => s.1.1.1), .fz (tSeq (tBool K)) (fun (s : m_law_search_L2T) => s.1.1.2.1), .fz (tSeq (tBool K)) (fun (s : m_law_search_L2T) => s.1.1.2.2.1), .fz (tList (tTp [(tSeq (tBool K)), (tSeq (tBool K)), (tOpt (tInt K))])) (fun (s : m_law_search_L2T) => (m_law_search_v_layer_15 s)), .fz (tInt K) (fun (s : m_law_search_L2T) => s.2), .dead, .dead, .dead, .ow (oList (tTp [(tSeq (tBool K)), (tSeq (tBool K)), (tOpt (tInt K))])) (fun (s : m_law_search_L2T) => (m_law_search_L5 s)), .dead, .dead, .dead, .dead] : Ctx K m_law_search_L2T)) (DI.conv (DI.range1 T.n_range DX.int) rfl rfl (by exact rfl)) (by exact trivial) (.keep (.keep (.keep (.fz (τ := (tList (tTp [(tSeq (tBool K)), (tSeq (tBool K)), (tOpt (tInt K))]))) (fun (m : m_law_search_L2M) => m) (fun _ => by rfl) (.dead (.dead (.dead (.dead (.dead (.dead (.dead (.dead (.dead .nil))))))))))))) (DG.name (i := 4) sc27.nd rfl (.inl rfl)) (by show ∀ j ∈ ([4] : List Nat), j ∉ ([] : List Nat); decide) (
      DM.consM (Δ1 := ([.fz (tInt K) (fun (s : m_law_search_L2T) => s.1.1.1), .fz (tSeq (tBool K)) (fun (s : m_law_search_L2T) => s.1.1.2.1), .fz (tSeq (tBool K)) (fun (s : m_law_search_L2T) => s.1.1.2.2.1), .fz (tList (tTp [(tSeq (tBool K)), (tSeq (tBool K)), (tOpt (tInt K))])) (fun (s : m_law_search_L2T) => s.1.2), .fz (tInt K) (fun (s : m_law_search_L2T) => s.2), .dead, .dead, .dead, .dead, .dead, .dead, .dead, .dead] : Ctx K m_law_search_L2T)) (r := fun (s : m_law_search_L2T) => (if (m_law_search_h3 s) = true then (some (some s.2)) else none)) (DSm.conv (DSm.ite (h := fun (s : m_law_search_L2T) => (m_law_search_h3 s)) (Δ1 := ([.fz (tInt K) (fun (s : m_law_search_L2T) => s.1.1.1), .fz (tSeq (tBool K)) (fun (s : m_law_search_L2T) => s.1.1.2.1), .fz (tSeq (tBool K)) (fun (s : m_law_search_L2T) => s.1.1.2.2.1), .fz (tList (tTp [(tSeq (tBool K)), (tSeq (tBool K)), (tOpt (tInt K))])) (fun (s : m_law_search_L2T) => s.1.2), .fz (tInt K) (fun (s : m_law_search_L2T) => s.2), .dead, .dead, .dead, .dead, .dead, .dead, .dead, .dead] : Ctx K m_law_search_L2T)) (Δa := ([.fz (tInt K) (fun (s : m_law_search_L2T) => s.1.1.1), .fz (tSeq (tBool K)) (fun (s : m_law_search_L2T) => s.1.1.2.1), .fz (tSeq (tBool K)) (fun (s : m_law_search_L2T) => s.1.1.2.2.1), .fz (tList (tTp [(tSeq (tBool K)), (tSeq (tBool K)), (tOpt (tInt K))])) (fun (s : m_law_search_L2T) => s.1.2), .fz (tInt K) (fun (s : m_law_search_L2T) => s.2), .dead, .dead, .dead, .dead, .dead, .dead, .dead, .dead] : Ctx K m_law_search_L2T)) (Δb := ([.fz (tInt K) (fun (s : m_law_search_L2T) => s.1.1.1), .fz (tSeq (tBool K)) (fun (s : m_law_search_L2T) => s.1.1.2.1), .fz (tSeq (tBool K)) (fun (s : m_law_search_L2T) => s.1.1.2.2.1), .fz (tList (tTp [(tSeq (tBool K)), (tSeq (tBool K)), (tOpt (tInt K))])) (fun (s : m_law_search_L2T) => s.1.2), .fz (tInt K) (fun (s : m_law_search_L2T) => s.2), .dead, .dead, .dead, .dead, .dead, .dead, .dead, .dead] : Ctx K m_law_search_L2T)) (DT.conv (DT.ne hr.rm (dat_list dat_int) (DX.ofL (DO.lc (own := [("_law_left", 5), ("_law_right_here", 6), ("_law_anchor", 7)]) (Δb := ([.fz (tInt K) (fun (s : (m_law_search_L2T × ((List Bool) × (List Bool) × (Option Int)))) => s.1.1.1.1), .fz (tSeq (tBool K)) (fun (s : (m_law_search_L2T × ((List Bool) × (List Bool) × (Option Int)))) => s.1.1.1.2.1), .fz (tSeq (tBool K)) (fun (s : (m_law_search_L2T × ((List Bool) × (List Bool) × (Option Int)))) => s.1.1.1.2.2.1), .fz (tList (tTp [(tSeq (tBool K)), (tSeq (tBool K)), (tOpt (tInt K))])) (fun (s : (m_law_search_L2T × ((List Bool) × (List Bool) × (Option Int)))) => s.1.1.2), .fz (tInt K) (fun (s : (m_law_search_L2T × ((List Bool) × (List Bool) × (Option Int)))) => s.1.2), .fz (tSeq (tBool K)) (fun (s : (m_law_search_L2T × ((List Bool) × (List Bool) × (Option Int)))) => s.2.1), .fz (tSeq (tBool K)) (fun (s : (m_law_search_L2T × ((List Bool) × (List Bool) × (Option Int)))) => s.2.2.1), .fz (tOpt (tInt K)) (fun (s : (m_law_search_L2T × ((List Bool) × (List Bool) × (Option Int)))) => s.2.2.2), .dead, .dead, .dead, .dead, .dead] : Ctx K (m_law_search_L2T × ((List Bool) × (List Bool) × (Option Int))))) sc27.nd (DI.list ll_list (DX.var (i := 3) rfl)) (blkOk_by (N := ["_law_size", "_law_one", "_law_two", "_law_layer", "_law_count", "_law_left", "_law_right_here", "_law_anchor", "_law_found", "_law_item", "_law_side", "_law_sides", "_law_one_state"]) (sc := defScope (topS 27)) (own := [("_law_left", 5), ("_law_right_here", 6), ("_law_anchor", 7)]) (by decide +kernel)) (fun _ _ _ _ _ => (DG.tup (DGs.cons (DG.name (i := 5) sc27.nd rfl (.inl rfl)) (DGs.cons (DG.name (i := 6) sc27.nd rfl (.inl rfl)) (DGs.one (DG.name (i := 7) sc27.nd rfl (.inl rfl))))))) (fun _ _ _ _ _ => (DTs'.one (DT.pu (DT.eq hr.rm (dat_seq dat_bool) (DX.var (i := 5) rfl) (DX.var (i := 6) rfl) (hn := n64 (m := 2) rfl)) rfl rfl))) (fun _ _ _ _ _ => (DX.pu DX.int rfl rfl)) (by decide))) (DX.ofL (DO.lst (τ := (tInt K)) DL.nil (hl := fun _ => (by decide : 0 ≤ sizeLine)))) (hn := n64 (m := 2) rfl)) rfl rfl (by exact rfl)) (by exact trivial) (
        DM.ofR <|
        DR.ret (f := fun (s : m_law_search_L2T) => (some s.2)) (DX.someO nv_int (DX.var (i := 4) rfl)) (OwnAll.all (by exact trivial)) (.fz (.fz (.fz .nil))) (by exact ⟨rfl, fun _ => HEq.rfl, fun _ => rfl⟩)
      ) (
        DM.ofN <|
        DN.fin rfl
      ) (.same (.same (.same (.same (.same (.same (.same (.same (.same (.same (.same (.same (.same .nil)))))))))))))) rfl rfl (by exact rfl)) <|
      DM.ofN <|
      DN.cons (Δ1 := ([.fz (tInt K) (fun (s : m_law_search_L2T) => s.1.1.1), .fz (tSeq (tBool K)) (fun (s : m_law_search_L2T) => s.1.1.2.1), .fz (tSeq (tBool K)) (fun (s : m_law_search_L2T) => s.1.1.2.2.1), .fz (tList (tTp [(tSeq (tBool K)), (tSeq (tBool K)), (tOpt (tInt K))])) (fun (s : m_law_search_L2T) => s.1.2), .fz (tInt K) (fun (s : m_law_search_L2T) => s.2), .dead, .dead, .dead, .ow (oList (tTp [(tSeq (tBool K)), (tSeq (tBool K)), (tOpt (tInt K))])) (fun (s : m_law_search_L2T) => (m_law_search_v_found_4 s)), .dead, .dead, .dead, .dead] : Ctx K m_law_search_L2T)) (DS.conv (DS.setO (DO.lst (τ := (tTp [(tSeq (tBool K)), (tSeq (tBool K)), (tOpt (tInt K))])) DL.nil (hl := fun _ => (by decide : 0 ≤ sizeLine))) (by exact trivial) sc27.nd (i := 8) rfl (.inl rfl) (by show 8 ∉ ([] : List Nat); decide)) rfl (by exact rfl)) <|
      DN.cons (Δ1 := ([.fz (tInt K) (fun (s : m_law_search_L2T) => s.1.1.1), .fz (tSeq (tBool K)) (fun (s : m_law_search_L2T) => s.1.1.2.1), .fz (tSeq (tBool K)) (fun (s : m_law_search_L2T) => s.1.1.2.2.1), .fz (tList (tTp [(tSeq (tBool K)), (tSeq (tBool K)), (tOpt (tInt K))])) (fun (s : m_law_search_L2T) => s.1.2), .fz (tInt K) (fun (s : m_law_search_L2T) => s.2), .dead, .dead, .dead, .ow (oList (tTp [(tSeq (tBool K)), (tSeq (tBool K)), (tOpt (tInt K))])) (fun (s : m_law_search_L2T) => (m_law_search_L5 s)), .dead, .dead, .dead, .dead] : Ctx K m_law_search_L2T)) (DS.conv (DS.forH (S := m_law_search_L2T) (M := m_law_search_L5M) (τ := (tTp [(tSeq (tBool K)), (tSeq (tBool K)), (tOpt (tInt K))])) (init := fun s => m_law_search_L5i s) (step := fun s => m_law_search_L5s s) (fx := fun s => m_law_search_L5x s) (Δ1 := ([.fz (tInt K) (fun (s : m_law_search_L2T) => s.1.1.1), .fz (tSeq (tBool K)) (fun (s : m_law_search_L2T) => s.1.1.2.1), .fz (tSeq (tBool K)) (fun (s : m_law_search_L2T) => s.1.1.2.2.1), .fz (tList (tTp [(tSeq (tBool K)), (tSeq (tBool K)), (tOpt (tInt K))])) (fun (s : m_law_search_L2T) => s.1.2), .fz (tInt K) (fun (s : m_law_search_L2T) => s.2), .dead, .dead, .dead, .ow (oList (tTp [(tSeq (tBool K)), (tSeq (tBool K)), (tOpt (tInt K))])) (fun (s : m_law_search_L2T) => (m_law_search_v_found_4 s)), .dead, .dead, .dead, .dead] : Ctx K m_law_search_L2T)) (Δl := ([.fz (tInt K) (fun (s : (m_law_search_L2T × m_law_search_L5M)) => s.1.1.1.1), .fz (tSeq (tBool K)) (fun (s : (m_law_search_L2T × m_law_search_L5M)) => s.1.1.1.2.1), .fz (tSeq (tBool K)) (fun (s : (m_law_search_L2T × m_law_search_L5M)) => s.1.1.1.2.2.1), .fz (tList (tTp [(tSeq (tBool K)), (tSeq (tBool K)), (tOpt (tInt K))])) (fun (s : (m_law_search_L2T × m_law_search_L5M)) => s.1.1.2), .fz (tInt K) (fun (s : (m_law_search_L2T × m_law_search_L5M)) => s.1.2), .dead, .dead, .dead, .ow (oList (tTp [(tSeq (tBool K)), (tSeq (tBool K)), (tOpt (tInt K))])) (fun (s : (m_law_search_L2T × m_law_search_L5M)) => s.2), .dead, .dead, .dead, .dead] : Ctx K (m_law_search_L2T × m_law_search_L5M))) (Δb := ([.fz (tInt K) (fun (s : m_law_search_L5T) => s.1.1.1.1.1), .fz (tSeq (tBool K)) (fun (s : m_law_search_L5T) => s.1.1.1.1.2.1), .fz (tSeq (tBool K)) (fun (s : m_law_search_L5T) => s.1.1.1.1.2.2.1), .fz (tList (tTp [(tSeq (tBool K)), (tSeq (tBool K)), (tOpt (tInt K))])) (fun (s : m_law_search_L5T) => s.1.1.1.2), .fz (tInt K) (fun (s : m_law_search_L5T) => s.1.1.2), .fz (tSeq (tBool K)) (fun (s : m_law_search_L5T) => s.2.1), .fz (tSeq (tBool K)) (fun (s : m_law_search_L5T) => s.2.2.1), .fz (tOpt (tInt K)) (fun (s : m_law_search_L5T) => s.2.2.2), .ow (oList (tTp [(tSeq (tBool K)), (tSeq (tBool K)), (tOpt (tInt K))])) (fun (s : m_law_search_L5T) => s.1.2), .dead, .dead, .dead, .dead] : Ctx K m_law_search_L5T)) (Δe := ([.fz (tInt K) (fun (s : m_law_search_L5T) => s.1.1.1.1.1), .fz (tSeq (tBool K)) (fun (s : m_law_search_L5T) => s.1.1.1.1.2.1), .fz (tSeq (tBool K)) (fun (s : m_law_search_L5T) => s.1.1.1.1.2.2.1), .fz (tList (tTp [(tSeq (tBool K)), (tSeq (tBool K)), (tOpt (tInt K))])) (fun (s : m_law_search_L5T) => s.1.1.1.2), .fz (tInt K) (fun (s : m_law_search_L5T) => s.1.1.2), .fz (tSeq (tBool K)) (fun (s : m_law_search_L5T) => s.2.1), .fz (tSeq (tBool K)) (fun (s : m_law_search_L5T) => s.2.2.1), .fz (tOpt (tInt K)) (fun (s : m_law_search_L5T) => s.2.2.2), .ow (oList (tTp [(tSeq (tBool K)), (tSeq (tBool K)), (tOpt (tInt K))])) (fun (s : m_law_search_L5T) => (m_law_search_L6 s)), .dead, .dead, .dead, .dead] : Ctx K m_law_search_L5T)) (DI.conv (DI.list ll_list (DX.ite (DT.lt (DX.var (i := 4) rfl) DX.int) (DX.pu (DX.var (i := 3) rfl) rfl rfl) (DX.pu (DX.ofL (DO.lst (τ := (tTp [(tSeq (tBool K)), (tSeq (tBool K)), (tOpt (tInt K))])) DL.nil (hl := fun _ => (by decide : 0 ≤ sizeLine)))) rfl rfl))) rfl rfl (by exact rfl)) (by exact trivial) (.keep (.keep (.keep (.keep (.keep (.dead (.dead (.dead (.ow (ω := (oList (tTp [(tSeq (tBool K)), (tSeq (tBool K)), (tOpt (tInt K))]))) (fun (m : m_law_search_L5M) => m) (fun _ => by rfl) (.dead (.dead (.dead (.dead .nil))))))))))))) (DG.tup (DGs.cons (DG.name (i := 5) sc27.nd rfl (.inl rfl)) (DGs.cons (DG.name (i := 6) sc27.nd rfl (.inl rfl)) (DGs.one (DG.name (i := 7) sc27.nd rfl (.inr rfl)))))) (by show ∀ j ∈ ([5, 6, 7] : List Nat), j ∉ ([] : List Nat); decide) (
        DN.cons (Δ1 := ([.fz (tInt K) (fun (s : m_law_search_L5T) => s.1.1.1.1.1), .fz (tSeq (tBool K)) (fun (s : m_law_search_L5T) => s.1.1.1.1.2.1), .fz (tSeq (tBool K)) (fun (s : m_law_search_L5T) => s.1.1.1.1.2.2.1), .fz (tList (tTp [(tSeq (tBool K)), (tSeq (tBool K)), (tOpt (tInt K))])) (fun (s : m_law_search_L5T) => s.1.1.1.2), .fz (tInt K) (fun (s : m_law_search_L5T) => s.1.1.2), .fz (tSeq (tBool K)) (fun (s : m_law_search_L5T) => s.2.1), .fz (tSeq (tBool K)) (fun (s : m_law_search_L5T) => s.2.2.1), .fz (tOpt (tInt K)) (fun (s : m_law_search_L5T) => s.2.2.2), .ow (oList (tTp [(tSeq (tBool K)), (tSeq (tBool K)), (tOpt (tInt K))])) (fun (s : m_law_search_L5T) => (m_law_search_L6 s)), .dead, .dead, .dead, .dead] : Ctx K m_law_search_L5T)) (DS.conv (DS.forH (S := m_law_search_L5T) (M := m_law_search_L6M) (τ := (tInt K)) (init := fun s => m_law_search_L6i s) (step := fun s => m_law_search_L6s s) (fx := fun s => m_law_search_L6x s) (Δ1 := ([.fz (tInt K) (fun (s : m_law_search_L5T) => s.1.1.1.1.1), .fz (tSeq (tBool K)) (fun (s : m_law_search_L5T) => s.1.1.1.1.2.1), .fz (tSeq (tBool K)) (fun (s : m_law_search_L5T) => s.1.1.1.1.2.2.1), .fz (tList (tTp [(tSeq (tBool K)), (tSeq (tBool K)), (tOpt (tInt K))])) (fun (s : m_law_search_L5T) => s.1.1.1.2), .fz (tInt K) (fun (s : m_law_search_L5T) => s.1.1.2), .fz (tSeq (tBool K)) (fun (s : m_law_search_L5T) => s.2.1), .fz (tSeq (tBool K)) (fun (s : m_law_search_L5T) => s.2.2.1), .fz (tOpt (tInt K)) (fun (s : m_law_search_L5T) => s.2.2.2), .ow (oList (tTp [(tSeq (tBool K)), (tSeq (tBool K)), (tOpt (tInt K))])) (fun (s : m_law_search_L5T) => s.1.2), .dead, .dead, .dead, .dead] : Ctx K m_law_search_L5T)) (Δl := ([.fz (tInt K) (fun (s : (m_law_search_L5T × m_law_search_L6M)) => s.1.1.1.1.1.1), .fz (tSeq (tBool K)) (fun (s : (m_law_search_L5T × m_law_search_L6M)) => s.1.1.1.1.1.2.1), .fz (tSeq (tBool K)) (fun (s : (m_law_search_L5T × m_law_search_L6M)) => s.1.1.1.1.1.2.2.1), .fz (tList (tTp [(tSeq (tBool K)), (tSeq (tBool K)), (tOpt (tInt K))])) (fun (s : (m_law_search_L5T × m_law_search_L6M)) => s.1.1.1.1.2), .fz (tInt K) (fun (s : (m_law_search_L5T × m_law_search_L6M)) => s.1.1.1.2), .fz (tSeq (tBool K)) (fun (s : (m_law_search_L5T × m_law_search_L6M)) => s.1.2.1), .fz (tSeq (tBool K)) (fun (s : (m_law_search_L5T × m_law_search_L6M)) => s.1.2.2.1), .fz (tOpt (tInt K)) (fun (s : (m_law_search_L5T × m_law_search_L6M)) => s.1.2.2.2), .ow (oList (tTp [(tSeq (tBool K)), (tSeq (tBool K)), (tOpt (tInt K))])) (fun (s : (m_law_search_L5T × m_law_search_L6M)) => s.2), .dead, .dead, .dead, .dead] : Ctx K (m_law_search_L5T × m_law_search_L6M))) (Δb := ([.fz (tInt K) (fun (s : m_law_search_L6T) => s.1.1.1.1.1.1.1), .fz (tSeq (tBool K)) (fun (s : m_law_search_L6T) => s.1.1.1.1.1.1.2.1), .fz (tSeq (tBool K)) (fun (s : m_law_search_L6T) => s.1.1.1.1.1.1.2.2.1), .fz (tList (tTp [(tSeq (tBool K)), (tSeq (tBool K)), (tOpt (tInt K))])) (fun (s : m_law_search_L6T) => s.1.1.1.1.1.2), .fz (tInt K) (fun (s : m_law_search_L6T) => s.1.1.1.1.2), .fz (tSeq (tBool K)) (fun (s : m_law_search_L6T) => s.1.1.2.1), .fz (tSeq (tBool K)) (fun (s : m_law_search_L6T) => s.1.1.2.2.1), .fz (tOpt (tInt K)) (fun (s : m_law_search_L6T) => s.1.1.2.2.2), .ow (oList (tTp [(tSeq (tBool K)), (tSeq (tBool K)), (tOpt (tInt K))])) (fun (s : m_law_search_L6T) => s.1.2), .fz (tInt K) (fun (s : m_law_search_L6T) => s.2), .dead, .dead, .dead] : Ctx K m_law_search_L6T)) (Δe := ([.fz (tInt K) (fun (s : m_law_search_L6T) => s.1.1.1.1.1.1.1), .fz (tSeq (tBool K)) (fun (s : m_law_search_L6T) => s.1.1.1.1.1.1.2.1), .fz (tSeq (tBool K)) (fun (s : m_law_search_L6T) => s.1.1.1.1.1.1.2.2.1), .fz (tList (tTp [(tSeq (tBool K)), (tSeq (tBool K)), (tOpt (tInt K))])) (fun (s : m_law_search_L6T) => s.1.1.1.1.1.2), .fz (tInt K) (fun (s : m_law_search_L6T) => s.1.1.1.1.2), .fz (tSeq (tBool K)) (fun (s : m_law_search_L6T) => s.1.1.2.1), .fz (tSeq (tBool K)) (fun (s : m_law_search_L6T) => s.1.1.2.2.1), .fz (tOpt (tInt K)) (fun (s : m_law_search_L6T) => s.1.1.2.2.2), .ow (oList (tTp [(tSeq (tBool K)), (tSeq (tBool K)), (tOpt (tInt K))])) (fun (s : m_law_search_L6T) => (m_law_search_v_found_14 s)), .fz (tInt K) (fun (s : m_law_search_L6T) => s.2), .dead, .dead, .dead] : Ctx K m_law_search_L6T)) (DI.conv (DI.range1 T.n_range (DX.var (i := 0) rfl)) rfl rfl (by exact rfl)) (by exact trivial) (.keep (.keep (.keep (.keep (.keep (.keep (.keep (.keep (.ow (ω := (oList (tTp [(tSeq (tBool K)), (tSeq (tBool K)), (tOpt (tInt K))]))) (fun (m : m_law_search_L6M) => m) (fun _ => by rfl) (.dead (.dead (.dead (.dead .nil))))))))))))) (DG.name (i := 9) sc27.nd rfl (.inr rfl)) (by show ∀ j ∈ ([9] : List Nat), j ∉ ([] : List Nat); decide) (
          DN.cons (Δ1 := ([.fz (tInt K) (fun (s : m_law_search_L6T) => s.1.1.1.1.1.1.1), .fz (tSeq (tBool K)) (fun (s : m_law_search_L6T) => s.1.1.1.1.1.1.2.1), .fz (tSeq (tBool K)) (fun (s : m_law_search_L6T) => s.1.1.1.1.1.1.2.2.1), .fz (tList (tTp [(tSeq (tBool K)), (tSeq (tBool K)), (tOpt (tInt K))])) (fun (s : m_law_search_L6T) => s.1.1.1.1.1.2), .fz (tInt K) (fun (s : m_law_search_L6T) => s.1.1.1.1.2), .fz (tSeq (tBool K)) (fun (s : m_law_search_L6T) => s.1.1.2.1), .fz (tSeq (tBool K)) (fun (s : m_law_search_L6T) => s.1.1.2.2.1), .fz (tOpt (tInt K)) (fun (s : m_law_search_L6T) => s.1.1.2.2.2), .ow (oList (tTp [(tSeq (tBool K)), (tSeq (tBool K)), (tOpt (tInt K))])) (fun (s : m_law_search_L6T) => (m_law_search_v_found_9 s)), .fz (tInt K) (fun (s : m_law_search_L6T) => s.2), .dead, .dead, .dead] : Ctx K m_law_search_L6T)) (DS.conv (DS.expr (DX.append (i := 8) (DX.tup (DTs.cons (DX.ofC (fm := m_law_after_fm K) (τ := (tSeq (tBool K))) (DC.call ((m_law_after_ok T).mono (by decide)) hr T.g26 T.F26.kp T.b26 (DA.cons (DX.var (i := 5) rfl) (DA.cons DX.int (DA.cons (DX.str (h := ok_str _)) (DA.cons (DX.var (i := 9) rfl) DA.nil)))) (.fz (.fz (.fz (.fz .nil)))) (.fz (.fz (.fz (.fz .nil)))) List.nodup_nil (by exact trivial)) rfl (fun _ => HEq.rfl)) (DTs.cons (DX.ofC (fm := m_law_after_fm K) (τ := (tSeq (tBool K))) (DC.call ((m_law_after_ok T).mono (by decide)) hr T.g26 T.F26.kp T.b26 (DA.cons (DX.var (i := 6) rfl) (DA.cons DX.int (DA.cons (DX.str (h := ok_str _)) (DA.cons (DX.var (i := 9) rfl) DA.nil)))) (.fz (.fz (.fz (.fz .nil)))) (.fz (.fz (.fz (.fz .nil)))) List.nodup_nil (by exact trivial)) rfl (fun _ => HEq.rfl)) (DTs.one (DX.someO nv_int (DX.var (i := 9) rfl))))) (hl := (by decide : 3 ≤ sizeLine))) rfl rfl) (by exact ⟨⟨_, _, rfl⟩, trivial⟩)) rfl (by exact rfl)) <|
          DN.cons (Δ1 := ([.fz (tInt K) (fun (s : m_law_search_L6T) => s.1.1.1.1.1.1.1), .fz (tSeq (tBool K)) (fun (s : m_law_search_L6T) => s.1.1.1.1.1.1.2.1), .fz (tSeq (tBool K)) (fun (s : m_law_search_L6T) => s.1.1.1.1.1.1.2.2.1), .fz (tList (tTp [(tSeq (tBool K)), (tSeq (tBool K)), (tOpt (tInt K))])) (fun (s : m_law_search_L6T) => s.1.1.1.1.1.2), .fz (tInt K) (fun (s : m_law_search_L6T) => s.1.1.1.1.2), .fz (tSeq (tBool K)) (fun (s : m_law_search_L6T) => s.1.1.2.1), .fz (tSeq (tBool K)) (fun (s : m_law_search_L6T) => s.1.1.2.2.1), .fz (tOpt (tInt K)) (fun (s : m_law_search_L6T) => s.1.1.2.2.2), .ow (oList (tTp [(tSeq (tBool K)), (tSeq (tBool K)), (tOpt (tInt K))])) (fun (s : m_law_search_L6T) => (m_law_search_v_found_14 s)), .fz (tInt K) (fun (s : m_law_search_L6T) => s.2), .dead, .dead, .dead] : Ctx K m_law_search_L6T)) (DS.conv (DS.ite (h := fun (s : m_law_search_L6T) => (m_law_search_h13 s)) (Δ1 := ([.fz (tInt K) (fun (s : m_law_search_L6T) => s.1.1.1.1.1.1.1), .fz (tSeq (tBool K)) (fun (s : m_law_search_L6T) => s.1.1.1.1.1.1.2.1), .fz (tSeq (tBool K)) (fun (s : m_law_search_L6T) => s.1.1.1.1.1.1.2.2.1), .fz (tList (tTp [(tSeq (tBool K)), (tSeq (tBool K)), (tOpt (tInt K))])) (fun (s : m_law_search_L6T) => s.1.1.1.1.1.2), .fz (tInt K) (fun (s : m_law_search_L6T) => s.1.1.1.1.2), .fz (tSeq (tBool K)) (fun (s : m_law_search_L6T) => s.1.1.2.1), .fz (tSeq (tBool K)) (fun (s : m_law_search_L6T) => s.1.1.2.2.1), .fz (tOpt (tInt K)) (fun (s : m_law_search_L6T) => s.1.1.2.2.2), .ow (oList (tTp [(tSeq (tBool K)), (tSeq (tBool K)), (tOpt (tInt K))])) (fun (s : m_law_search_L6T) => (m_law_search_v_found_9 s)), .fz (tInt K) (fun (s : m_law_search_L6T) => s.2), .dead, .dead, .dead] : Ctx K m_law_search_L6T)) (Δa := ([.fz (tInt K) (fun (s : m_law_search_L6T) => s.1.1.1.1.1.1.1), .fz (tSeq (tBool K)) (fun (s : m_law_search_L6T) => s.1.1.1.1.1.1.2.1), .fz (tSeq (tBool K)) (fun (s : m_law_search_L6T) => s.1.1.1.1.1.1.2.2.1), .fz (tList (tTp [(tSeq (tBool K)), (tSeq (tBool K)), (tOpt (tInt K))])) (fun (s : m_law_search_L6T) => s.1.1.1.1.1.2), .fz (tInt K) (fun (s : m_law_search_L6T) => s.1.1.1.1.2), .fz (tSeq (tBool K)) (fun (s : m_law_search_L6T) => s.1.1.2.1), .fz (tSeq (tBool K)) (fun (s : m_law_search_L6T) => s.1.1.2.2.1), .fz (tOpt (tInt K)) (fun (s : m_law_search_L6T) => s.1.1.2.2.2), .ow (oList (tTp [(tSeq (tBool K)), (tSeq (tBool K)), (tOpt (tInt K))])) (fun (s : m_law_search_L6T) => (m_law_search_v_found_12 s)), .fz (tInt K) (fun (s : m_law_search_L6T) => s.2), .dead, .fz (tList (tSeq (tBool K))) (fun (s : m_law_search_L6T) => (m_law_search_v_sides_11 s)), .dead] : Ctx K m_law_search_L6T)) (Δb := ([.fz (tInt K) (fun (s : m_law_search_L6T) => s.1.1.1.1.1.1.1), .fz (tSeq (tBool K)) (fun (s : m_law_search_L6T) => s.1.1.1.1.1.1.2.1), .fz (tSeq (tBool K)) (fun (s : m_law_search_L6T) => s.1.1.1.1.1.1.2.2.1), .fz (tList (tTp [(tSeq (tBool K)), (tSeq (tBool K)), (tOpt (tInt K))])) (fun (s : m_law_search_L6T) => s.1.1.1.1.1.2), .fz (tInt K) (fun (s : m_law_search_L6T) => s.1.1.1.1.2), .fz (tSeq (tBool K)) (fun (s : m_law_search_L6T) => s.1.1.2.1), .fz (tSeq (tBool K)) (fun (s : m_law_search_L6T) => s.1.1.2.2.1), .fz (tOpt (tInt K)) (fun (s : m_law_search_L6T) => s.1.1.2.2.2), .ow (oList (tTp [(tSeq (tBool K)), (tSeq (tBool K)), (tOpt (tInt K))])) (fun (s : m_law_search_L6T) => (m_law_search_v_found_9 s)), .fz (tInt K) (fun (s : m_law_search_L6T) => s.2), .dead, .dead, .dead] : Ctx K m_law_search_L6T)) (DT.conv (DT.notN (DX.var (i := 7) rfl)) rfl rfl (by exact rfl)) (by exact trivial) (
            DN.cons (Δ1 := ([.fz (tInt K) (fun (s : m_law_search_L6T) => s.1.1.1.1.1.1.1), .fz (tSeq (tBool K)) (fun (s : m_law_search_L6T) => s.1.1.1.1.1.1.2.1), .fz (tSeq (tBool K)) (fun (s : m_law_search_L6T) => s.1.1.1.1.1.1.2.2.1), .fz (tList (tTp [(tSeq (tBool K)), (tSeq (tBool K)), (tOpt (tInt K))])) (fun (s : m_law_search_L6T) => s.1.1.1.1.1.2), .fz (tInt K) (fun (s : m_law_search_L6T) => s.1.1.1.1.2), .fz (tSeq (tBool K)) (fun (s : m_law_search_L6T) => s.1.1.2.1), .fz (tSeq (tBool K)) (fun (s : m_law_search_L6T) => s.1.1.2.2.1), .fz (tOpt (tInt K)) (fun (s : m_law_search_L6T) => s.1.1.2.2.2), .ow (oList (tTp [(tSeq (tBool K)), (tSeq (tBool K)), (tOpt (tInt K))])) (fun (s : m_law_search_L6T) => (m_law_search_v_found_9 s)), .fz (tInt K) (fun (s : m_law_search_L6T) => s.2), .dead, .fz (tList (tSeq (tBool K))) (fun (s : m_law_search_L6T) => (m_law_search_v_sides_11 s)), .dead] : Ctx K m_law_search_L6T)) (DS.conv (DS.setSF (DOS.lc (own := [("_law_side", 10)]) (Δb := ([.fz (tInt K) (fun (s : (m_law_search_L6T × (List Bool))) => s.1.1.1.1.1.1.1.1), .fz (tSeq (tBool K)) (fun (s : (m_law_search_L6T × (List Bool))) => s.1.1.1.1.1.1.1.2.1), .fz (tSeq (tBool K)) (fun (s : (m_law_search_L6T × (List Bool))) => s.1.1.1.1.1.1.1.2.2.1), .fz (tList (tTp [(tSeq (tBool K)), (tSeq (tBool K)), (tOpt (tInt K))])) (fun (s : (m_law_search_L6T × (List Bool))) => s.1.1.1.1.1.1.2), .fz (tInt K) (fun (s : (m_law_search_L6T × (List Bool))) => s.1.1.1.1.1.2), .fz (tSeq (tBool K)) (fun (s : (m_law_search_L6T × (List Bool))) => s.1.1.1.2.1), .fz (tSeq (tBool K)) (fun (s : (m_law_search_L6T × (List Bool))) => s.1.1.1.2.2.1), .fz (tOpt (tInt K)) (fun (s : (m_law_search_L6T × (List Bool))) => s.1.1.1.2.2.2), .ow (oList (tTp [(tSeq (tBool K)), (tSeq (tBool K)), (tOpt (tInt K))])) (fun (s : (m_law_search_L6T × (List Bool))) => (m_law_search_v_found_9 s.1)), .fz (tInt K) (fun (s : (m_law_search_L6T × (List Bool))) => s.1.2), .fz (tSeq (tBool K)) (fun (s : (m_law_search_L6T × (List Bool))) => s.2), .dead, .dead] : Ctx K (m_law_search_L6T × (List Bool)))) sc27.nd (DI.seqT (τ := (tSeq (tBool K))) (DX.asSeq2 (DX.tup (DTs.cons (DX.var (i := 5) rfl) (DTs.one (DX.var (i := 6) rfl))) (hl := (by decide : 2 ≤ sizeLine))))) (blkOk_by (N := ["_law_size", "_law_one", "_law_two", "_law_layer", "_law_count", "_law_left", "_law_right_here", "_law_anchor", "_law_found", "_law_item", "_law_side", "_law_sides", "_law_one_state"]) (sc := defScope (topS 27)) (own := [("_law_side", 10)]) (by decide +kernel)) (fun _ _ _ _ _ => (DG.name (i := 10) sc27.nd rfl (.inl rfl))) (fun _ _ _ _ _ => DTs'.nil) (fun _ _ _ _ _ => (DX.pu (DX.ofC (fm := m_law_after_fm K) (τ := (tSeq (tBool K))) (DC.call ((m_law_after_ok T).mono (by decide)) hr T.g26 T.F26.kp T.b26 (DA.cons (DX.var (i := 10) rfl) (DA.cons (DX.getO (τ := (tInt K)) (0 : Int) (DX.var (i := 7) rfl)) (DA.cons (DX.str (h := ok_str _)) (DA.cons (DX.var (i := 9) rfl) DA.nil)))) (.fz (.fz (.fz (.fz .nil)))) (.fz (.fz (.fz (.fz .nil)))) List.nodup_nil (by exact trivial)) rfl (fun _ => HEq.rfl)) rfl rfl)) (by decide)) (by exact trivial) sc27.nd (i := 11) rfl rfl (by show 11 ∉ ([] : List Nat); decide)) rfl (by exact rfl)) <|
            DN.cons (Δ1 := ([.fz (tInt K) (fun (s : m_law_search_L6T) => s.1.1.1.1.1.1.1), .fz (tSeq (tBool K)) (fun (s : m_law_search_L6T) => s.1.1.1.1.1.1.2.1), .fz (tSeq (tBool K)) (fun (s : m_law_search_L6T) => s.1.1.1.1.1.1.2.2.1), .fz (tList (tTp [(tSeq (tBool K)), (tSeq (tBool K)), (tOpt (tInt K))])) (fun (s : m_law_search_L6T) => s.1.1.1.1.1.2), .fz (tInt K) (fun (s : m_law_search_L6T) => s.1.1.1.1.2), .fz (tSeq (tBool K)) (fun (s : m_law_search_L6T) => s.1.1.2.1), .fz (tSeq (tBool K)) (fun (s : m_law_search_L6T) => s.1.1.2.2.1), .fz (tOpt (tInt K)) (fun (s : m_law_search_L6T) => s.1.1.2.2.2), .ow (oList (tTp [(tSeq (tBool K)), (tSeq (tBool K)), (tOpt (tInt K))])) (fun (s : m_law_search_L6T) => (m_law_search_v_found_12 s)), .fz (tInt K) (fun (s : m_law_search_L6T) => s.2), .dead, .fz (tList (tSeq (tBool K))) (fun (s : m_law_search_L6T) => (m_law_search_v_sides_11 s)), .dead] : Ctx K m_law_search_L6T)) (DS.conv (DS.expr (DX.append (i := 8) (DX.tup (DTs.cons (DX.ix (ll_list (τ := (tSeq (tBool K)))) ([] : List Bool) (DX.var (i := 11) rfl) DX.int) (DTs.cons (DX.ix (ll_list (τ := (tSeq (tBool K)))) ([] : List Bool) (DX.var (i := 11) rfl) DX.int) (DTs.one (DX.var (i := 7) rfl)))) (hl := (by decide : 3 ≤ sizeLine))) rfl rfl) (by exact ⟨⟨_, _, rfl⟩, trivial⟩)) rfl (by exact rfl)) <|
            DN.fin rfl
          ) (
            DN.fin rfl
          ) (.same (.same (.same (.same (.same (.same (.same (.same (.ow (.same (.same (.dead (.same .nil)))))))))))))) rfl rfl) <|
          DN.fin rfl
        ) (.keep (sl := .fz (tInt K) (fun (s : m_law_search_L5T) => s.1.1.1.1.1)) (.keep (sl := .fz (tSeq (tBool K)) (fun (s : m_law_search_L5T) => s.1.1.1.1.2.1)) (.keep (sl := .fz (tSeq (tBool K)) (fun (s : m_law_search_L5T) => s.1.1.1.1.2.2.1)) (.keep (sl := .fz (tList (tTp [(tSeq (tBool K)), (tSeq (tBool K)), (tOpt (tInt K))])) (fun (s : m_law_search_L5T) => s.1.1.1.2)) (.keep (sl := .fz (tInt K) (fun (s : m_law_search_L5T) => s.1.1.2)) (.keep (sl := .fz (tSeq (tBool K)) (fun (s : m_law_search_L5T) => s.2.1)) (.keep (sl := .fz (tSeq (tBool K)) (fun (s : m_law_search_L5T) => s.2.2.1)) (.keep (sl := .fz (tOpt (tInt K)) (fun (s : m_law_search_L5T) => s.2.2.2)) (.ow (ω := (oList (tTp [(tSeq (tBool K)), (tSeq (tBool K)), (tOpt (tInt K))]))) (pr := fun (m : m_law_search_L6M) => m) (fun _ => by rfl) (.dead (.dead (.dead (.dead .nil)))))))))))))) rfl rfl) <|
        DN.fin rfl
      ) (.keep (sl := .fz (tInt K) (fun (s : m_law_search_L2T) => s.1.1.1)) (.keep (sl := .fz (tSeq (tBool K)) (fun (s : m_law_search_L2T) => s.1.1.2.1)) (.keep (sl := .fz (tSeq (tBool K)) (fun (s : m_law_search_L2T) => s.1.1.2.2.1)) (.keep (sl := .fz (tList (tTp [(tSeq (tBool K)), (tSeq (tBool K)), (tOpt (tInt K))])) (fun (s : m_law_search_L2T) => s.1.2)) (.keep (sl := .fz (tInt K) (fun (s : m_law_search_L2T) => s.2)) (.dead (.dead (.dead (.ow (ω := (oList (tTp [(tSeq (tBool K)), (tSeq (tBool K)), (tOpt (tInt K))]))) (pr := fun (m : m_law_search_L5M) => m) (fun _ => by rfl) (.dead (.dead (.dead (.dead .nil)))))))))))))) rfl rfl) <|
      DN.cons (Δ1 := ([.fz (tInt K) (fun (s : m_law_search_L2T) => s.1.1.1), .fz (tSeq (tBool K)) (fun (s : m_law_search_L2T) => s.1.1.2.1), .fz (tSeq (tBool K)) (fun (s : m_law_search_L2T) => s.1.1.2.2.1), .fz (tList (tTp [(tSeq (tBool K)), (tSeq (tBool K)), (tOpt (tInt K))])) (fun (s : m_law_search_L2T) => (m_law_search_v_layer_15 s)), .fz (tInt K) (fun (s : m_law_search_L2T) => s.2), .dead, .dead, .dead, .ow (oList (tTp [(tSeq (tBool K)), (tSeq (tBool K)), (tOpt (tInt K))])) (fun (s : m_law_search_L2T) => (m_law_search_L5 s)), .dead, .dead, .dead, .dead] : Ctx K m_law_search_L2T)) (DS.conv (DS.asg (DX.ofL (DO.borrowE 8 rfl (DO.uniq (key_tup3 (n := 1) (KeyPt.up (KeyTy.pt (key_seq (KeyTy.pt key_bool))) (by decide)) (KeyPt.up (KeyTy.pt (key_seq (KeyTy.pt key_bool))) (by decide)) (KeyPt.up (key_opt key_int) (by decide))) (dfT3 (dfSeq dfBool) (dfSeq dfBool) (dfOpt dfInt)).dec (roomG_un hr) T.n_list T.n_dict (DX.ofL (DO.lc (own := [("_law_one_state", 12)]) (Δb := ([.fz (tInt K) (fun (s : (m_law_search_L2T × ((List Bool) × (List Bool) × (Option Int)))) => s.1.1.1.1), .fz (tSeq (tBool K)) (fun (s : (m_law_search_L2T × ((List Bool) × (List Bool) × (Option Int)))) => s.1.1.1.2.1), .fz (tSeq (tBool K)) (fun (s : (m_law_search_L2T × ((List Bool) × (List Bool) × (Option Int)))) => s.1.1.1.2.2.1), .fz (tList (tTp [(tSeq (tBool K)), (tSeq (tBool K)), (tOpt (tInt K))])) (fun (s : (m_law_search_L2T × ((List Bool) × (List Bool) × (Option Int)))) => s.1.1.2), .fz (tInt K) (fun (s : (m_law_search_L2T × ((List Bool) × (List Bool) × (Option Int)))) => s.1.2), .dead, .dead, .dead, .fz (tList (tTp [(tSeq (tBool K)), (tSeq (tBool K)), (tOpt (tInt K))])) (fun (s : (m_law_search_L2T × ((List Bool) × (List Bool) × (Option Int)))) => (m_law_search_L5 s.1)), .dead, .dead, .dead, .fz (tTp [(tSeq (tBool K)), (tSeq (tBool K)), (tOpt (tInt K))]) (fun (s : (m_law_search_L2T × ((List Bool) × (List Bool) × (Option Int)))) => s.2)] : Ctx K (m_law_search_L2T × ((List Bool) × (List Bool) × (Option Int))))) sc27.nd (DI.list ll_list (DX.var (i := 8) rfl)) (blkOk_by (N := ["_law_size", "_law_one", "_law_two", "_law_layer", "_law_count", "_law_left", "_law_right_here", "_law_anchor", "_law_found", "_law_item", "_law_side", "_law_sides", "_law_one_state"]) (sc := defScope (topS 27)) (own := [("_law_one_state", 12)]) (by decide +kernel)) (fun _ _ _ _ _ => (DG.name (i := 12) sc27.nd rfl (.inl rfl))) (fun _ _ _ _ _ => DTs'.nil) (fun _ _ _ _ _ => (DX.pu (DX.tup (DTs.cons (DX.var (i := 12) rfl) (DTs.one DX.tru)) (hl := (by decide : 2 ≤ sizeLine))) rfl rfl)) (by decide))) (fun ⟨a, _, e, _⟩ => ⟨a, e⟩)) (lfo_list (lf_tup (lf_cons (lf_seq lf_bool) (lf_cons (lf_seq lf_bool) (lf_cons (lf_opt lf_int) lf_nil))))) (by show 8 ∉ ([] : List Nat); decide) (by exact trivial) (by exact trivial))) (DG.name (i := 3) sc27.nd rfl (.inl rfl)) (by exact trivial) (by show ∀ j ∈ ([3] : List Nat), j ∉ ([] : List Nat); decide)) rfl (by exact rfl)) <|
      DN.fin rfl
    ) (.keep (sl := .fz (tInt K) (fun (s : m_law_search_S) => s.1)) (.keep (sl := .fz (tSeq (tBool K)) (fun (s : m_law_search_S) => s.2.1)) (.keep (sl := .fz (tSeq (tBool K)) (fun (s : m_law_search_S) => s.2.2.1)) (.fz (τ := (tList (tTp [(tSeq (tBool K)), (tSeq (tBool K)), (tOpt (tInt K))]))) (pr := fun (m : m_law_search_L2M) => m) (fun _ => by rfl) (.dead (.dead (.dead (.dead (.dead (.dead (.dead (.dead (.dead .nil)))))))))))))) rfl rfl (by exact rfl)) <|
    DR.ret (f := fun (s : m_law_search_S) => none) DX.nonO (OwnAll.all (by exact trivial)) (.fz (.fz (.fz .nil))) (by exact ⟨rfl, fun _ => HEq.rfl, fun _ => rfl⟩)
    ) (by exact fun _ => (hide_eq _).symm) (by exact fun _ h => h)
theorem m_law_runs_ok (T : Tx K mg) : FnG P w K mg base CX0 1 T.a25 T.d25 ["_law_segments", "_law_marks"] (SpOf (m_law_runs_fm K) m_law_runs_p m_law_runs) := by
  refine def_ok T.F25 sc25 rfl (by decide) fun cdv A outer s H E hr => ?_
  exact def_fin (Δ := ([.fz (tList (tTp [(tInt K), (tInt K)])) (fun (s : m_law_runs_S) => s.1), .fz (tSeq (tBool K)) (fun (s : m_law_runs_S) => s.2.1), .dead, .dead, .dead, .dead] : Ctx K m_law_runs_S)) (p := m_law_runs_p) (fv := m_law_runs) (
    DR.cons (Δ1 := ([.fz (tList (tTp [(tInt K), (tInt K)])) (fun (s : m_law_runs_S) => s.1), .fz (tSeq (tBool K)) (fun (s : m_law_runs_S) => s.2.1), .ow (oList (tTp [(tInt K), (tInt K)])) (fun (s : m_law_runs_S) => (m_law_runs_v_found_1 s)), .dead, .dead, .dead] : Ctx K m_law_runs_S)) (DS.conv (DS.setO (DO.lst (τ := (tTp [(tInt K), (tInt K)])) DL.nil (hl := fun _ => (by decide : 0 ≤ sizeLine))) (by exact trivial) sc25.nd (i := 2) rfl (.inl rfl) (by show 2 ∉ ([] : List Nat); decide)) rfl (by exact rfl)) <|
    DR.cons (Δ1 := ([.fz (tList (tTp [(tInt K), (tInt K)])) (fun (s : m_law_runs_S) => s.1), .fz (tSeq (tBool K)) (fun (s : m_law_runs_S) => s.2.1), .ow (oList (tTp [(tInt K), (tInt K)])) (fun (s : m_law_runs_S) => (m_law_runs_L2 s)), .dead, .dead, .dead] : Ctx K m_law_runs_S)) (DS.conv (DS.forH (S := m_law_runs_S) (M := m_law_runs_L2M) (τ := (tTp [(tInt K), (tTp [(tInt K), (tInt K)])])) (init := fun s => m_law_runs_L2i s) (step := fun s => m_law_runs_L2s s) (fx := fun s => m_law_runs_L2x s) (Δ1 := ([.fz (tList (tTp [(tInt K), (tInt K)])) (fun (s : m_law_runs_S) => s.1), .fz (tSeq (tBool K)) (fun (s : m_law_runs_S) => s.2.1), .ow (oList (tTp [(tInt K), (tInt K)])) (fun (s : m_law_runs_S) => (m_law_runs_v_found_1 s)), .dead, .dead, .dead] : Ctx K m_law_runs_S)) (Δl := ([.fz (tList (tTp [(tInt K), (tInt K)])) (fun (s : (m_law_runs_S × m_law_runs_L2M)) => s.1.1), .fz (tSeq (tBool K)) (fun (s : (m_law_runs_S × m_law_runs_L2M)) => s.1.2.1), .ow (oList (tTp [(tInt K), (tInt K)])) (fun (s : (m_law_runs_S × m_law_runs_L2M)) => s.2), .dead, .dead, .dead] : Ctx K (m_law_runs_S × m_law_runs_L2M))) (Δb := ([.fz (tList (tTp [(tInt K), (tInt K)])) (fun (s : m_law_runs_L2T) => s.1.1.1), .fz (tSeq (tBool K)) (fun (s : m_law_runs_L2T) => s.1.1.2.1), .ow (oList (tTp [(tInt K), (tInt K)])) (fun (s : m_law_runs_L2T) => s.1.2), .fz (tInt K) (fun (s : m_law_runs_L2T) => s.2.1), .fz (tInt K) (fun (s : m_law_runs_L2T) => s.2.2.1), .fz (tInt K) (fun (s : m_law_runs_L2T) => s.2.2.2)] : Ctx K m_law_runs_L2T)) (Δe := ([.fz (tList (tTp [(tInt K), (tInt K)])) (fun (s : m_law_runs_L2T) => s.1.1.1), .fz (tSeq (tBool K)) (fun (s : m_law_runs_L2T) => s.1.1.2.1), .ow (oList (tTp [(tInt K), (tInt K)])) (fun (s : m_law_runs_L2T) => (m_law_runs_v_found_8 s)), .fz (tInt K) (fun (s : m_law_runs_L2T) => s.2.1), .fz (tInt K) (fun (s : m_law_runs_L2T) => s.2.2.1), .fz (tInt K) (fun (s : m_law_runs_L2T) => s.2.2.2)] : Ctx K m_law_runs_L2T)) (DI.conv (DI.enum ll_list T.n_enumerate (DX.var (i := 0) rfl)) rfl rfl (by exact rfl)) (by exact trivial) (.keep (.keep (.ow (ω := (oList (tTp [(tInt K), (tInt K)]))) (fun (m : m_law_runs_L2M) => m) (fun _ => by rfl) (.dead (.dead (.dead .nil)))))) (DG.tup (DGs.cons (DG.name (i := 3) sc25.nd rfl (.inl rfl)) (DGs.one (DG.tup (DGs.cons (DG.name (i := 4) sc25.nd rfl (.inl rfl)) (DGs.one (DG.name (i := 5) sc25.nd rfl (.inl rfl)))))))) (by show ∀ j ∈ ([3, 4, 5] : List Nat), j ∉ ([] : List Nat); decide) (
      DN.cons (Δ1 := ([.fz (tList (tTp [(tInt K), (tInt K)])) (fun (s : m_law_runs_L2T) => s.1.1.1), .fz (tSeq (tBool K)) (fun (s : m_law_runs_L2T) => s.1.1.2.1), .ow (oList (tTp [(tInt K), (tInt K)])) (fun (s : m_law_runs_L2T) => (m_law_runs_v_found_8 s)), .fz (tInt K) (fun (s : m_law_runs_L2T) => s.2.1), .fz (tInt K) (fun (s : m_law_runs_L2T) => s.2.2.1), .fz (tInt K) (fun (s : m_law_runs_L2T) => s.2.2.2)] : Ctx K m_law_runs_L2T)) (DS.conv (DS.ite (h := fun (s : m_law_runs_L2T) => (m_law_runs_h7 s)) (Δ1 := ([.fz (tList (tTp [(tInt K), (tInt K)])) (fun (s : m_law_runs_L2T) => s.1.1.1), .fz (tSeq (tBool K)) (fun (s : m_law_runs_L2T) => s.1.1.2.1), .ow (oList (tTp [(tInt K), (tInt K)])) (fun (s : m_law_runs_L2T) => s.1.2), .fz (tInt K) (fun (s : m_law_runs_L2T) => s.2.1), .fz (tInt K) (fun (s : m_law_runs_L2T) => s.2.2.1), .fz (tInt K) (fun (s : m_law_runs_L2T) => s.2.2.2)] : Ctx K m_law_runs_L2T)) (Δa := ([.fz (tList (tTp [(tInt K), (tInt K)])) (fun (s : m_law_runs_L2T) => s.1.1.1), .fz (tSeq (tBool K)) (fun (s : m_law_runs_L2T) => s.1.1.2.1), .ow (oList (tTp [(tInt K), (tInt K)])) (fun (s : m_law_runs_L2T) => (m_law_runs_v_found_3 s)), .fz (tInt K) (fun (s : m_law_runs_L2T) => s.2.1), .fz (tInt K) (fun (s : m_law_runs_L2T) => s.2.2.1), .fz (tInt K) (fun (s : m_law_runs_L2T) => s.2.2.2)] : Ctx K m_law_runs_L2T)) (Δb := ([.fz (tList (tTp [(tInt K), (tInt K)])) (fun (s : m_law_runs_L2T) => s.1.1.1), .fz (tSeq (tBool K)) (fun (s : m_law_runs_L2T) => s.1.1.2.1), .ow (oList (tTp [(tInt K), (tInt K)])) (fun (s : m_law_runs_L2T) => (m_law_runs_v_found_6 s)), .fz (tInt K) (fun (s : m_law_runs_L2T) => s.2.1), .fz (tInt K) (fun (s : m_law_runs_L2T) => s.2.2.1), .fz (tInt K) (fun (s : m_law_runs_L2T) => s.2.2.2)] : Ctx K m_law_runs_L2T)) (DT.conv (DW.t (DW.and (DT.ofX (DX.ixSq (τ := (tBool K)) false (DX.var (i := 1) rfl) (DX.var (i := 3) rfl))) (DW.pu (DW.and (DT.gt (DX.var (i := 3) rfl) DX.int) (DW.pu (DW.and1 (DT.ofX (DX.ixSq (τ := (tBool K)) false (DX.var (i := 1) rfl) (DX.sub (DX.var (i := 3) rfl) DX.int)))) rfl rfl)) rfl rfl))) rfl rfl (by exact rfl)) (by exact trivial) (
        DN.cons (Δ1 := ([.fz (tList (tTp [(tInt K), (tInt K)])) (fun (s : m_law_runs_L2T) => s.1.1.1), .fz (tSeq (tBool K)) (fun (s : m_law_runs_L2T) => s.1.1.2.1), .ow (oList (tTp [(tInt K), (tInt K)])) (fun (s : m_law_runs_L2T) => (m_law_runs_v_found_3 s)), .fz (tInt K) (fun (s : m_law_runs_L2T) => s.2.1), .fz (tInt K) (fun (s : m_law_runs_L2T) => s.2.2.1), .fz (tInt K) (fun (s : m_law_runs_L2T) => s.2.2.2)] : Ctx K m_law_runs_L2T)) (DS.conv (DS.store (DX.borrowE 2 rfl (DX.tup (DTs.cons (DX.tix (k := 0) (DX.ix (ll_list (τ := (tTp [(tInt K), (tInt K)]))) ((0 : Int), (0 : Int)) (DX.var (i := 2) rfl) (DX.neg DX.int)) .zero) (DTs.one (DX.var (i := 5) rfl))) (hl := (by decide : 2 ≤ sizeLine))) (lf_tup (lf_cons lf_int (lf_cons lf_int lf_nil))) (by show 2 ∉ ([] : List Nat); decide) (by exact trivial) (by exact trivial)) (DX.pu (DX.neg DX.int) rfl rfl) (by exact trivial) (i := 2) rfl) rfl (by exact rfl)) <|
        DN.fin rfl
      ) (
        DN.cons (Δ1 := ([.fz (tList (tTp [(tInt K), (tInt K)])) (fun (s : m_law_runs_L2T) => s.1.1.1), .fz (tSeq (tBool K)) (fun (s : m_law_runs_L2T) => s.1.1.2.1), .ow (oList (tTp [(tInt K), (tInt K)])) (fun (s : m_law_runs_L2T) => (m_law_runs_v_found_6 s)), .fz (tInt K) (fun (s : m_law_runs_L2T) => s.2.1), .fz (tInt K) (fun (s : m_law_runs_L2T) => s.2.2.1), .fz (tInt K) (fun (s : m_law_runs_L2T) => s.2.2.2)] : Ctx K m_law_runs_L2T)) (DS.conv (DS.ite (h := fun (s : m_law_runs_L2T) => (m_law_runs_h5 s)) (Δ1 := ([.fz (tList (tTp [(tInt K), (tInt K)])) (fun (s : m_law_runs_L2T) => s.1.1.1), .fz (tSeq (tBool K)) (fun (s : m_law_runs_L2T) => s.1.1.2.1), .ow (oList (tTp [(tInt K), (tInt K)])) (fun (s : m_law_runs_L2T) => s.1.2), .fz (tInt K) (fun (s : m_law_runs_L2T) => s.2.1), .fz (tInt K) (fun (s : m_law_runs_L2T) => s.2.2.1), .fz (tInt K) (fun (s : m_law_runs_L2T) => s.2.2.2)] : Ctx K m_law_runs_L2T)) (Δa := ([.fz (tList (tTp [(tInt K), (tInt K)])) (fun (s : m_law_runs_L2T) => s.1.1.1), .fz (tSeq (tBool K)) (fun (s : m_law_runs_L2T) => s.1.1.2.1), .ow (oList (tTp [(tInt K), (tInt K)])) (fun (s : m_law_runs_L2T) => (m_law_runs_v_found_4 s)), .fz (tInt K) (fun (s : m_law_runs_L2T) => s.2.1), .fz (tInt K) (fun (s : m_law_runs_L2T) => s.2.2.1), .fz (tInt K) (fun (s : m_law_runs_L2T) => s.2.2.2)] : Ctx K m_law_runs_L2T)) (Δb := ([.fz (tList (tTp [(tInt K), (tInt K)])) (fun (s : m_law_runs_L2T) => s.1.1.1), .fz (tSeq (tBool K)) (fun (s : m_law_runs_L2T) => s.1.1.2.1), .ow (oList (tTp [(tInt K), (tInt K)])) (fun (s : m_law_runs_L2T) => s.1.2), .fz (tInt K) (fun (s : m_law_runs_L2T) => s.2.1), .fz (tInt K) (fun (s : m_law_runs_L2T) => s.2.2.1), .fz (tInt K) (fun (s : m_law_runs_L2T) => s.2.2.2)] : Ctx K m_law_runs_L2T)) (DT.conv (DT.ofX (DX.ixSq (τ := (tBool K)) false (DX.var (i := 1) rfl) (DX.var (i := 3) rfl))) rfl rfl (by exact rfl)) (by exact trivial) (
          DN.cons (Δ1 := ([.fz (tList (tTp [(tInt K), (tInt K)])) (fun (s : m_law_runs_L2T) => s.1.1.1), .fz (tSeq (tBool K)) (fun (s : m_law_runs_L2T) => s.1.1.2.1), .ow (oList (tTp [(tInt K), (tInt K)])) (fun (s : m_law_runs_L2T) => (m_law_runs_v_found_4 s)), .fz (tInt K) (fun (s : m_law_runs_L2T) => s.2.1), .fz (tInt K) (fun (s : m_law_runs_L2T) => s.2.2.1), .fz (tInt K) (fun (s : m_law_runs_L2T) => s.2.2.2)] : Ctx K m_law_runs_L2T)) (DS.conv (DS.expr (DX.append (i := 2) (DX.tup (DTs.cons (DX.var (i := 4) rfl) (DTs.one (DX.var (i := 5) rfl))) (hl := (by decide : 2 ≤ sizeLine))) rfl rfl) (by exact ⟨⟨_, _, rfl⟩, trivial⟩)) rfl (by exact rfl)) <|
          DN.fin rfl
        ) (
          DN.fin rfl
        ) (.same (.same (.ow (.same (.same (.same .nil))))))) rfl rfl) <|
        DN.fin rfl
      ) (.same (.same (.ow (.same (.same (.same .nil))))))) rfl rfl) <|
      DN.fin rfl
    ) (.keep (sl := .fz (tList (tTp [(tInt K), (tInt K)])) (fun (s : m_law_runs_S) => s.1)) (.keep (sl := .fz (tSeq (tBool K)) (fun (s : m_law_runs_S) => s.2.1)) (.ow (ω := (oList (tTp [(tInt K), (tInt K)]))) (pr := fun (m : m_law_runs_L2M) => m) (fun _ => by rfl) (.dead (.dead (.dead .nil))))))) rfl rfl) <|
    DR.retN (f := fun (s : m_law_runs_S) => (m_law_runs_L2 s)) (i := 2) rfl (by show 2 ∉ ([] : List Nat); decide) (.fz (.fz .nil)) ⟨rfl, fun _ => HEq.rfl, fun _ => rfl⟩
    ) (by exact fun _ => (hide_eq _).symm) (by exact fun _ h => h)
theorem mis_integer_ok (T : Tx K mg) : FnG P w K mg base CX0 1 T.a6 T.d6 ["value", "least", "most"] (SpOf (mis_integer_fm K) mis_integer_p mis_integer) := by
  refine def_ok T.F6 sc6 rfl (by decide) fun cdv A outer s H E hr => ?_
  exact def_fin (Δ := ([.fz (tInt K) (fun (s : mis_integer_S) => s.1), .fz (tInt K) (fun (s : mis_integer_S) => s.2.1), .fz (tInt K) (fun (s : mis_integer_S) => s.2.2.1)] : Ctx K mis_integer_S)) (p := mis_integer_p) (fv := mis_integer) (
    DR.ret (f := fun (s : mis_integer_S) => (true && ((!false) && (pLe s.2.1 s.1 && pLe s.1 s.2.2.1)))) (DX.and (DX.isi (T2 := "int") (r := true) (DX.var (i := 0) rfl) kind_int (by decide +kernel) T.n_isinstance T.n_int (by decide +kernel)) (DX.and (DX.pu (DX.not (DX.isi (T2 := "bool") (r := false) (DX.var (i := 0) rfl) kind_int (by decide +kernel) T.n_isinstance T.n_bool (by decide +kernel))) rfl rfl) (DX.and1 (DX.pu (DX.chain ch_le ch_le (DX.var (i := 1) rfl) (DX.var (i := 0) rfl) (DX.pu (DX.var (i := 2) rfl) rfl rfl)) rfl rfl)))) (OwnAll.all (by exact trivial)) (.fz (.fz (.fz .nil))) (by exact ⟨rfl, fun _ => HEq.rfl, fun _ => rfl⟩)
    ) (by exact fun _ => (hide_eq _).symm) (by exact fun _ h => h)
theorem mcheck_items_ok (T : Tx K mg) : FnG P w K mg base CX0 2 T.a7 T.d7 ["items"] (SpOf (mcheck_items_fm K) mcheck_items_p mcheck_items) := by
  refine def_ok T.F7 sc7 rfl (by decide) fun cdv A outer s H E hr => ?_
  exact def_finN (Δ := ([.fz (tInt K) (fun (s : mcheck_items_S) => s.1)] : Ctx K mcheck_items_S)) (p := mcheck_items_p) (fv := mcheck_items) (
    DN.cons (Δ1 := ([.fz (tInt K) (fun (s : mcheck_items_S) => s.1)] : Ctx K mcheck_items_S)) (DS.conv (DS.guard (DT.not (DT.ofX (DX.ofC (fm := mis_integer_fm K) (τ := (tBool K)) (DC.call ((mis_integer_ok T).mono (by decide)) hr T.g6 T.F6.kp T.b6 (DA.cons (DX.var (i := 0) rfl) (DA.cons DX.int (DA.cons (DX.glbI (by rfl) T.c_MOST_ITEMS) DA.nil))) (.fz (.fz (.fz .nil))) (.fz (.fz (.fz .nil))) List.nodup_nil (by exact trivial)) rfl (fun _ => HEq.rfl)))) (by exact trivial)) rfl (by exact rfl)) <|
    DN.fin rfl
    ) (.fz .nil) ⟨rfl, fun _ => HEq.rfl, fun _ => rfl⟩ (by exact fun _ h => h)
theorem mis_run_ok (T : Tx K mg) : FnG P w K mg base CX0 2 T.a8 T.d8 ["items", "value"] (SpOf (mis_run_fm K) mis_run_p mis_run) := by
  refine def_ok T.F8 sc8 rfl (by decide) fun cdv A outer s H E hr => ?_
  exact def_fin (Δ := ([.fz (tInt K) (fun (s : mis_run_S) => s.1), .fz (tTp [(tInt K), (tInt K)]) (fun (s : mis_run_S) => s.2.1)] : Ctx K mis_run_S)) (p := mis_run_p) (fv := mis_run) (
    DR.if1 (h := fun (s : mis_run_S) => ((!true) || ((!(dfInt).eq (2 : Int) (2 : Int)) || (!(mis_run_c1 s))))) (Δ1 := ([.fz (tInt K) (fun (s : mis_run_S) => s.1), .fz (tTp [(tInt K), (tInt K)]) (fun (s : mis_run_S) => s.2.1)] : Ctx K mis_run_S)) (DT.conv (DW.t (DW.or (DT.not (DT.ofX (DX.isi (T2 := "tuple") (r := true) (DX.var (i := 1) rfl) kind_tup (by decide +kernel) T.n_isinstance T.n_tuple (by decide +kernel)))) (DW.pu (DW.or (DT.ne hr.rm dat_int (DX.lenT (ts := [(tInt K), (tInt K)]) T.n_len (DX.var (i := 1) rfl)) DX.int (hn := n64 (m := 1) rfl)) (DW.pu (DW.or1 (DT.not (DT.ofX (DX.ofC (fm := mis_integer_fm K) (τ := (tBool K)) (DC.call ((mis_integer_ok T).mono (by decide)) hr T.g6 T.F6.kp T.b6 (DA.cons (DX.tix (k := 0) (DX.var (i := 1) rfl) .zero) (DA.cons DX.int (DA.cons (DX.sub (DX.var (i := 0) rfl) DX.int) DA.nil))) (.fz (.fz (.fz .nil))) (.fz (.fz (.fz .nil))) List.nodup_nil (by exact trivial)) rfl (fun _ => HEq.rfl))))) rfl rfl)) rfl rfl))) rfl rfl (by exact rfl)) (by exact trivial) (
      DR.ret (f := fun (s : mis_run_S) => false) DX.fls (OwnAll.all (by exact trivial)) (.fz (.fz .nil)) (by exact ⟨rfl, fun _ => HEq.rfl, fun _ => rfl⟩)
    ) (
      DR.ret (f := fun (s : mis_run_S) => (mis_run_c2 s)) (DX.ofC (fm := mis_integer_fm K) (τ := (tBool K)) (DC.call ((mis_integer_ok T).mono (by decide)) hr T.g6 T.F6.kp T.b6 (DA.cons (DX.tix (k := 1) (DX.var (i := 1) rfl) (.succ .last)) (DA.cons (DX.tix (k := 0) (DX.var (i := 1) rfl) .zero) (DA.cons (DX.sub (DX.var (i := 0) rfl) DX.int) DA.nil))) (.fz (.fz (.fz .nil))) (.fz (.fz (.fz .nil))) List.nodup_nil (by exact trivial)) rfl (fun _ => HEq.rfl)) (OwnAll.all (by exact trivial)) (.fz (.fz .nil)) (by exact ⟨rfl, fun _ => HEq.rfl, fun _ => rfl⟩)
    )
    ) (by exact fun _ => (hide_eq _).symm) (by exact fun _ h => h)
theorem mare_runs_ok (T : Tx K mg) : FnG P w K mg base CX0 3 T.a9 T.d9 ["items", "value"] (SpOf (mare_runs_fm K) mare_runs_p mare_runs) := by
  refine def_ok T.F9 sc9 rfl (by decide) fun cdv A outer s H E hr => ?_
  exact def_fin (Δ := ([.fz (tInt K) (fun (s : mare_runs_S) => s.1), .fz (tList (tTp [(tInt K), (tInt K)])) (fun (s : mare_runs_S) => s.2.1), .dead, .dead, .dead] : Ctx K mare_runs_S)) (p := mare_runs_p) (fv := mare_runs) (
    DR.if1 (h := fun (s : mare_runs_S) => ((!true) || (!(((lcV s.2.1 (fun x => true) (fun x => (mare_runs_c1 (s, x))))).all id)))) (Δ1 := ([.fz (tInt K) (fun (s : mare_runs_S) => s.1), .fz (tList (tTp [(tInt K), (tInt K)])) (fun (s : mare_runs_S) => s.2.1), .dead, .dead, .dead] : Ctx K mare_runs_S)) (DT.conv (DW.t (DW.or (DT.not (DT.ofX (DX.isi (T2 := "list") (r := true) (DX.var (i := 1) rfl) kind_list (by decide +kernel) T.n_isinstance T.n_list (by decide +kernel)))) (DW.pu (DW.or1 (DT.not (DT.ofX (DX.all T.n_all (DX.ofL (DO.lc (own := [("run", 2)]) (Δb := ([.fz (tInt K) (fun (s : (mare_runs_S × (Int × Int))) => s.1.1), .fz (tList (tTp [(tInt K), (tInt K)])) (fun (s : (mare_runs_S × (Int × Int))) => s.1.2.1), .fz (tTp [(tInt K), (tInt K)]) (fun (s : (mare_runs_S × (Int × Int))) => s.2), .dead, .dead] : Ctx K (mare_runs_S × (Int × Int)))) sc9.nd (DI.list ll_list (DX.var (i := 1) rfl)) (blkOk_by (N := ["items", "value", "run", "one", "other"]) (sc := defScope (topS 9)) (own := [("run", 2)]) (by decide +kernel)) (fun _ _ _ _ _ => (DG.name (i := 2) sc9.nd rfl (.inl rfl))) (fun _ _ _ _ _ => DTs'.nil) (fun _ _ _ _ _ => (DX.pu (DX.ofC (fm := mis_run_fm K) (τ := (tBool K)) (DC.call ((mis_run_ok T).mono (by decide)) hr T.g8 T.F8.kp T.b8 (DA.cons (DX.var (i := 0) rfl) (DA.cons (DX.var (i := 2) rfl) DA.nil)) (.fz (.fz .nil)) (.fz (.fz .nil)) List.nodup_nil (by exact trivial)) rfl (fun _ => HEq.rfl)) rfl rfl)) (by decide))))))) rfl rfl))) rfl rfl (by exact rfl)) (by exact trivial) (
      DR.ret (f := fun (s : mare_runs_S) => false) DX.fls (OwnAll.all (by exact trivial)) (.fz (.fz .nil)) (by exact ⟨rfl, fun _ => HEq.rfl, fun _ => rfl⟩)
    ) (
      DR.ret (f := fun (s : mare_runs_S) => (((lcV (List.zip s.2.1 (cutL s.2.1 (some (1 : Int)) none)) (fun x => true) (fun x => (decide (((s, x).2.1.2 + (1 : Int)) < (s, x).2.2.1))))).all id)) (DX.all T.n_all (DX.ofL (DO.lc (own := [("one", 3), ("other", 4)]) (Δb := ([.fz (tInt K) (fun (s : (mare_runs_S × ((Int × Int) × (Int × Int)))) => s.1.1), .fz (tList (tTp [(tInt K), (tInt K)])) (fun (s : (mare_runs_S × ((Int × Int) × (Int × Int)))) => s.1.2.1), .dead, .fz (tTp [(tInt K), (tInt K)]) (fun (s : (mare_runs_S × ((Int × Int) × (Int × Int)))) => s.2.1), .fz (tTp [(tInt K), (tInt K)]) (fun (s : (mare_runs_S × ((Int × Int) × (Int × Int)))) => s.2.2)] : Ctx K (mare_runs_S × ((Int × Int) × (Int × Int))))) sc9.nd (DI.zip ll_list ll_list T.n_zip (DX.var (i := 1) rfl) (DX.ofL (DO.sl ll_list (DX.var (i := 1) rfl) (DPo.some DX.int) DPo.none))) (blkOk_by (N := ["items", "value", "run", "one", "other"]) (sc := defScope (topS 9)) (own := [("one", 3), ("other", 4)]) (by decide +kernel)) (fun _ _ _ _ _ => (DG.tup (DGs.cons (DG.name (i := 3) sc9.nd rfl (.inl rfl)) (DGs.one (DG.name (i := 4) sc9.nd rfl (.inl rfl)))))) (fun _ _ _ _ _ => DTs'.nil) (fun _ _ _ _ _ => (DX.pu (DX.lt (DX.add (DX.tix (k := 1) (DX.var (i := 3) rfl) (.succ .last)) DX.int) (DX.tix (k := 0) (DX.var (i := 4) rfl) .zero)) rfl rfl)) (by decide)))) (OwnAll.all (by exact trivial)) (.fz (.fz .nil)) (by exact ⟨rfl, fun _ => HEq.rfl, fun _ => rfl⟩)
    )
    ) (by exact fun _ => (hide_eq _).symm) (by exact fun _ h => h)
theorem mcheck_selection_ok (T : Tx K mg) : FnG P w K mg base CX0 4 T.a10 T.d10 ["items", "selection"] (SpOf (mcheck_selection_fm K) mcheck_selection_p mcheck_selection) := by
  refine def_ok T.F10 sc10 rfl (by decide) fun cdv A outer s H E hr => ?_
  exact def_finN (Δ := ([.fz (tInt K) (fun (s : mcheck_selection_S) => s.1), .fz (tList (tTp [(tInt K), (tInt K)])) (fun (s : mcheck_selection_S) => s.2.1)] : Ctx K mcheck_selection_S)) (p := mcheck_selection_p) (fv := mcheck_selection) (
    DN.cons (Δ1 := ([.fz (tInt K) (fun (s : mcheck_selection_S) => s.1), .fz (tList (tTp [(tInt K), (tInt K)])) (fun (s : mcheck_selection_S) => s.2.1)] : Ctx K mcheck_selection_S)) (DS.conv (DS.guard (DT.not (DT.ofX (DX.ofC (fm := mare_runs_fm K) (τ := (tBool K)) (DC.call ((mare_runs_ok T).mono (by decide)) hr T.g9 T.F9.kp T.b9 (DA.cons (DX.var (i := 0) rfl) (DA.cons (DX.var (i := 1) rfl) DA.nil)) (.fz (.fz .nil)) (.fz (.fz .nil)) List.nodup_nil (by exact trivial)) rfl (fun _ => HEq.rfl)))) (by exact trivial)) rfl (by exact rfl)) <|
    DN.fin rfl
    ) (.fz (.fz .nil)) ⟨rfl, fun _ => HEq.rfl, fun _ => rfl⟩ (by exact fun _ h => h)
theorem mcheck_both_ok (T : Tx K mg) : FnG P w K mg base CX0 5 T.a17 T.d17 ["items", "selection", "other"] (SpOf (mcheck_both_fm K) mcheck_both_p mcheck_both) := by
  refine def_ok T.F17 sc17 rfl (by decide) fun cdv A outer s H E hr => ?_
  exact def_finN (Δ := ([.fz (tInt K) (fun (s : mcheck_both_S) => s.1), .fz (tList (tTp [(tInt K), (tInt K)])) (fun (s : mcheck_both_S) => s.2.1), .fz (tList (tTp [(tInt K), (tInt K)])) (fun (s : mcheck_both_S) => s.2.2.1)] : Ctx K mcheck_both_S)) (p := mcheck_both_p) (fv := mcheck_both) (
    DN.cons (Δ1 := ([.fz (tInt K) (fun (s : mcheck_both_S) => s.1), .fz (tList (tTp [(tInt K), (tInt K)])) (fun (s : mcheck_both_S) => s.2.1), .fz (tList (tTp [(tInt K), (tInt K)])) (fun (s : mcheck_both_S) => s.2.2.1)] : Ctx K mcheck_both_S)) (DS.conv (DS.expr (DX.ofC (fm := mcheck_items_fm K) (τ := (tNone K)) (DC.call ((mcheck_items_ok T).mono (by decide)) hr T.g7 T.F7.kp T.b7 (DA.cons (DX.var (i := 0) rfl) DA.nil) (.fz .nil) (.fz .nil) List.nodup_nil (by exact trivial)) rfl (fun _ => HEq.rfl)) (by exact trivial)) rfl (by exact rfl)) <|
    DN.cons (Δ1 := ([.fz (tInt K) (fun (s : mcheck_both_S) => s.1), .fz (tList (tTp [(tInt K), (tInt K)])) (fun (s : mcheck_both_S) => s.2.1), .fz (tList (tTp [(tInt K), (tInt K)])) (fun (s : mcheck_both_S) => s.2.2.1)] : Ctx K mcheck_both_S)) (DS.conv (DS.expr (DX.ofC (fm := mcheck_selection_fm K) (τ := (tNone K)) (DC.call ((mcheck_selection_ok T).mono (by decide)) hr T.g10 T.F10.kp T.b10 (DA.cons (DX.var (i := 0) rfl) (DA.cons (DX.var (i := 1) rfl) DA.nil)) (.fz (.fz .nil)) (.fz (.fz .nil)) List.nodup_nil (by exact trivial)) rfl (fun _ => HEq.rfl)) (by exact trivial)) rfl (by exact rfl)) <|
    DN.cons (Δ1 := ([.fz (tInt K) (fun (s : mcheck_both_S) => s.1), .fz (tList (tTp [(tInt K), (tInt K)])) (fun (s : mcheck_both_S) => s.2.1), .fz (tList (tTp [(tInt K), (tInt K)])) (fun (s : mcheck_both_S) => s.2.2.1)] : Ctx K mcheck_both_S)) (DS.conv (DS.expr (DX.ofC (fm := mcheck_selection_fm K) (τ := (tNone K)) (DC.call ((mcheck_selection_ok T).mono (by decide)) hr T.g10 T.F10.kp T.b10 (DA.cons (DX.var (i := 0) rfl) (DA.cons (DX.var (i := 2) rfl) DA.nil)) (.fz (.fz .nil)) (.fz (.fz .nil)) List.nodup_nil (by exact trivial)) rfl (fun _ => HEq.rfl)) (by exact trivial)) rfl (by exact rfl)) <|
    DN.fin rfl
    ) (.fz (.fz (.fz .nil))) ⟨rfl, fun _ => HEq.rfl, fun _ => rfl⟩ (by exact fun _ h => h)
theorem mborders_in_ok (T : Tx K mg) : FnG P w K mg base CX0 1 T.a11 T.d11 ["selection"] (SpOf (mborders_in_fm K) mborders_in_p mborders_in) := by
  refine def_ok T.F11 sc11 rfl (by decide) fun cdv A outer s H E hr => ?_
  exact def_fin (Δ := ([.fz (tList (tTp [(tInt K), (tInt K)])) (fun (s : mborders_in_S) => s.1), .dead, .dead, .dead] : Ctx K mborders_in_S)) (p := mborders_in_p) (fv := mborders_in) (
    DR.cons (Δ1 := ([.fz (tList (tTp [(tInt K), (tInt K)])) (fun (s : mborders_in_S) => s.1), .ow (oList (tInt K)) (fun (s : mborders_in_S) => (mborders_in_v_borders_1 s)), .dead, .dead] : Ctx K mborders_in_S)) (DS.conv (DS.setO (DO.lst (τ := (tInt K)) DL.nil (hl := fun _ => (by decide : 0 ≤ sizeLine))) (by exact trivial) sc11.nd (i := 1) rfl (.inl rfl) (by show 1 ∉ ([] : List Nat); decide)) rfl (by exact rfl)) <|
    DR.cons (Δ1 := ([.fz (tList (tTp [(tInt K), (tInt K)])) (fun (s : mborders_in_S) => s.1), .ow (oList (tInt K)) (fun (s : mborders_in_S) => (mborders_in_L2 s)), .dead, .dead] : Ctx K mborders_in_S)) (DS.conv (DS.forH (S := mborders_in_S) (M := mborders_in_L2M) (τ := (tTp [(tInt K), (tInt K)])) (init := fun s => mborders_in_L2i s) (step := fun s => mborders_in_L2s s) (fx := fun s => mborders_in_L2x s) (Δ1 := ([.fz (tList (tTp [(tInt K), (tInt K)])) (fun (s : mborders_in_S) => s.1), .ow (oList (tInt K)) (fun (s : mborders_in_S) => (mborders_in_v_borders_1 s)), .dead, .dead] : Ctx K mborders_in_S)) (Δl := ([.fz (tList (tTp [(tInt K), (tInt K)])) (fun (s : (mborders_in_S × mborders_in_L2M)) => s.1.1), .ow (oList (tInt K)) (fun (s : (mborders_in_S × mborders_in_L2M)) => s.2), .dead, .dead] : Ctx K (mborders_in_S × mborders_in_L2M))) (Δb := ([.fz (tList (tTp [(tInt K), (tInt K)])) (fun (s : mborders_in_L2T) => s.1.1.1), .ow (oList (tInt K)) (fun (s : mborders_in_L2T) => s.1.2), .fz (tInt K) (fun (s : mborders_in_L2T) => s.2.1), .fz (tInt K) (fun (s : mborders_in_L2T) => s.2.2)] : Ctx K mborders_in_L2T)) (Δe := ([.fz (tList (tTp [(tInt K), (tInt K)])) (fun (s : mborders_in_L2T) => s.1.1.1), .ow (oList (tInt K)) (fun (s : mborders_in_L2T) => (mborders_in_v_borders_3 s)), .fz (tInt K) (fun (s : mborders_in_L2T) => s.2.1), .fz (tInt K) (fun (s : mborders_in_L2T) => s.2.2)] : Ctx K mborders_in_L2T)) (DI.conv (DI.list ll_list (DX.var (i := 0) rfl)) rfl rfl (by exact rfl)) (by exact trivial) (.keep (.ow (ω := (oList (tInt K))) (fun (m : mborders_in_L2M) => m) (fun _ => by rfl) (.dead (.dead .nil)))) (DG.tup (DGs.cons (DG.name (i := 2) sc11.nd rfl (.inl rfl)) (DGs.one (DG.name (i := 3) sc11.nd rfl (.inl rfl))))) (by show ∀ j ∈ ([2, 3] : List Nat), j ∉ ([] : List Nat); decide) (
      DN.cons (Δ1 := ([.fz (tList (tTp [(tInt K), (tInt K)])) (fun (s : mborders_in_L2T) => s.1.1.1), .ow (oList (tInt K)) (fun (s : mborders_in_L2T) => (mborders_in_v_borders_3 s)), .fz (tInt K) (fun (s : mborders_in_L2T) => s.2.1), .fz (tInt K) (fun (s : mborders_in_L2T) => s.2.2)] : Ctx K mborders_in_L2T)) (DS.conv (DS.augL (DO.pu (DO.lst (τ := (tInt K)) (DL.cons (DX.var (i := 2) rfl) (DL.cons (DX.add (DX.var (i := 3) rfl) DX.int) DL.nil)) (hl := fun _ => (by decide : 2 ≤ sizeLine))) rfl rfl) (i := 1) rfl sc11.nd rfl (.inl rfl)) rfl (by exact rfl)) <|
      DN.fin rfl
    ) (.keep (sl := .fz (tList (tTp [(tInt K), (tInt K)])) (fun (s : mborders_in_S) => s.1)) (.ow (ω := (oList (tInt K))) (pr := fun (m : mborders_in_L2M) => m) (fun _ => by rfl) (.dead (.dead .nil))))) rfl rfl) <|
    DR.retN (f := fun (s : mborders_in_S) => (mborders_in_L2 s)) (i := 1) rfl (by show 1 ∉ ([] : List Nat); decide) (.fz .nil) ⟨rfl, fun _ => HEq.rfl, fun _ => rfl⟩
    ) (by exact fun _ => (hide_eq _).symm) (by exact fun _ h => h)
theorem mfrom_borders_ok (T : Tx K mg) : FnG P w K mg base CX0 1 T.a12 T.d12 ["borders"] (SpOf (mfrom_borders_fm K) mfrom_borders_p mfrom_borders) := by
  refine def_ok T.F12 sc12 rfl (by decide) fun cdv A outer s H E hr => ?_
  exact def_fin (Δ := ([.fz (tList (tInt K)) (fun (s : mfrom_borders_S) => s.1), .dead, .dead] : Ctx K mfrom_borders_S)) (p := mfrom_borders_p) (fv := mfrom_borders) (
    DR.retO (f := fun (s : mfrom_borders_S) => (lcV (List.zip (stepL s.1 none none (some (2 : Int))) (stepL s.1 (some (1 : Int)) none (some (2 : Int)))) (fun x => true) (fun x => ((s, x).2.1, ((s, x).2.2 - (1 : Int)))))) (DO.lc (own := [("first", 1), ("end", 2)]) (Δb := ([.fz (tList (tInt K)) (fun (s : (mfrom_borders_S × (Int × Int))) => s.1.1), .fz (tInt K) (fun (s : (mfrom_borders_S × (Int × Int))) => s.2.1), .fz (tInt K) (fun (s : (mfrom_borders_S × (Int × Int))) => s.2.2)] : Ctx K (mfrom_borders_S × (Int × Int)))) sc12.nd (DI.zip ll_list ll_list T.n_zip (DX.ofL (DO.slS ll_list (DX.var (i := 0) rfl) DPo.none DPo.none (DPo.some DX.int) (fun _ => by decide))) (DX.ofL (DO.slS ll_list (DX.var (i := 0) rfl) (DPo.some DX.int) DPo.none (DPo.some DX.int) (fun _ => by decide)))) (blkOk_by (N := ["borders", "first", "end"]) (sc := defScope (topS 12)) (own := [("first", 1), ("end", 2)]) (by decide +kernel)) (fun _ _ _ _ _ => (DG.tup (DGs.cons (DG.name (i := 1) sc12.nd rfl (.inl rfl)) (DGs.one (DG.name (i := 2) sc12.nd rfl (.inl rfl)))))) (fun _ _ _ _ _ => DTs'.nil) (fun _ _ _ _ _ => (DX.pu (DX.tup (DTs.cons (DX.var (i := 1) rfl) (DTs.one (DX.sub (DX.var (i := 2) rfl) DX.int))) (hl := (by decide : 2 ≤ sizeLine))) rfl rfl)) (by decide)) (OwnAll.all (by exact trivial)) (.fz .nil) (by exact ⟨rfl, fun _ => HEq.rfl, fun _ => rfl⟩)
    ) (by exact fun _ => (hide_eq _).symm) (by exact fun _ h => h)
theorem mdiffering_runs_ok (T : Tx K mg) : FnG P w K mg base CX0 2 T.a16 T.d16 ["borders", "others"] (SpOf (mdiffering_runs_fm K) mdiffering_runs_p mdiffering_runs) := by
  refine def_ok T.F16 sc16 rfl (by decide) fun cdv A outer s H E hr => ?_
  exact def_fin (Δ := ([.fz (tList (tInt K)) (fun (s : mdiffering_runs_S) => s.1), .fz (tList (tInt K)) (fun (s : mdiffering_runs_S) => s.2.1), .dead, .dead, .dead, .dead] : Ctx K mdiffering_runs_S)) (p := mdiffering_runs_p) (fv := mdiffering_runs) (
    DR.cons (Δ1 := ([.fz (tList (tInt K)) (fun (s : mdiffering_runs_S) => s.1), .fz (tList (tInt K)) (fun (s : mdiffering_runs_S) => s.2.1), .dead, .fz (tDic K) (fun (s : mdiffering_runs_S) => (mdiffering_runs_v_known_1 s)), .dead, .dead] : Ctx K mdiffering_runs_S)) (DS.conv (DS.asg (DX.ofD (DO.dc (own := [("border", 2)]) (Δb := ([.fz (tList (tInt K)) (fun (s : (mdiffering_runs_S × Int)) => s.1.1), .fz (tList (tInt K)) (fun (s : (mdiffering_runs_S × Int)) => s.1.2.1), .fz (tInt K) (fun (s : (mdiffering_runs_S × Int)) => s.2), .dead, .dead, .dead] : Ctx K (mdiffering_runs_S × Int))) sc16.nd (DI.list ll_list (DX.var (i := 1) rfl)) (blkOk_by (N := ["borders", "others", "border", "known", "own", "found"]) (sc := defScope (topS 16)) (own := [("border", 2)]) (by decide +kernel)) (fun _ _ _ _ _ => (DG.name (i := 2) sc16.nd rfl (.inl rfl))) (fun _ _ _ _ _ => DTs'.nil) (fun _ _ _ _ _ => (DX.pu (DX.var (i := 2) rfl) rfl rfl)) (fun _ _ _ _ _ => (DX.pu DX.tru rfl rfl)) (by decide))) (DG.name (i := 3) sc16.nd rfl (.inr rfl)) (by exact trivial) (by show ∀ j ∈ ([3] : List Nat), j ∉ ([] : List Nat); decide)) rfl (by exact rfl)) <|
    DR.cons (Δ1 := ([.fz (tList (tInt K)) (fun (s : mdiffering_runs_S) => s.1), .fz (tList (tInt K)) (fun (s : mdiffering_runs_S) => s.2.1), .dead, .fz (tDic K) (fun (s : mdiffering_runs_S) => (mdiffering_runs_v_known_1 s)), .fz (tDic K) (fun (s : mdiffering_runs_S) => (mdiffering_runs_v_own_2 s)), .dead] : Ctx K mdiffering_runs_S)) (DS.conv (DS.asg (DX.ofD (DO.dc (own := [("border", 2)]) (Δb := ([.fz (tList (tInt K)) (fun (s : (mdiffering_runs_S × Int)) => s.1.1), .fz (tList (tInt K)) (fun (s : (mdiffering_runs_S × Int)) => s.1.2.1), .fz (tInt K) (fun (s : (mdiffering_runs_S × Int)) => s.2), .fz (tDic K) (fun (s : (mdiffering_runs_S × Int)) => (mdiffering_runs_v_known_1 s.1)), .dead, .dead] : Ctx K (mdiffering_runs_S × Int))) sc16.nd (DI.list ll_list (DX.var (i := 0) rfl)) (blkOk_by (N := ["borders", "others", "border", "known", "own", "found"]) (sc := defScope (topS 16)) (own := [("border", 2)]) (by decide +kernel)) (fun _ _ _ _ _ => (DG.name (i := 2) sc16.nd rfl (.inl rfl))) (fun _ _ _ _ _ => DTs'.nil) (fun _ _ _ _ _ => (DX.pu (DX.var (i := 2) rfl) rfl rfl)) (fun _ _ _ _ _ => (DX.pu DX.tru rfl rfl)) (by decide))) (DG.name (i := 4) sc16.nd rfl (.inr rfl)) (by exact trivial) (by show ∀ j ∈ ([4] : List Nat), j ∉ ([] : List Nat); decide)) rfl (by exact rfl)) <|
    DR.cons (Δ1 := ([.fz (tList (tInt K)) (fun (s : mdiffering_runs_S) => s.1), .fz (tList (tInt K)) (fun (s : mdiffering_runs_S) => s.2.1), .dead, .fz (tDic K) (fun (s : mdiffering_runs_S) => (mdiffering_runs_v_known_1 s)), .fz (tDic K) (fun (s : mdiffering_runs_S) => (mdiffering_runs_v_own_2 s)), .fz (tList (tInt K)) (fun (s : mdiffering_runs_S) => (mdiffering_runs_v_found_3 s))] : Ctx K mdiffering_runs_S)) (DS.conv (DS.setSF (DOS.lc (own := [("border", 2)]) (Δb := ([.fz (tList (tInt K)) (fun (s : (mdiffering_runs_S × Int)) => s.1.1), .fz (tList (tInt K)) (fun (s : (mdiffering_runs_S × Int)) => s.1.2.1), .fz (tInt K) (fun (s : (mdiffering_runs_S × Int)) => s.2), .fz (tDic K) (fun (s : (mdiffering_runs_S × Int)) => (mdiffering_runs_v_known_1 s.1)), .fz (tDic K) (fun (s : (mdiffering_runs_S × Int)) => (mdiffering_runs_v_own_2 s.1)), .dead] : Ctx K (mdiffering_runs_S × Int))) sc16.nd (DI.list ll_list (DX.var (i := 0) rfl)) (blkOk_by (N := ["borders", "others", "border", "known", "own", "found"]) (sc := defScope (topS 16)) (own := [("border", 2)]) (by decide +kernel)) (fun _ _ _ _ _ => (DG.name (i := 2) sc16.nd rfl (.inl rfl))) (fun _ _ _ _ _ => (DTs'.one (DT.pu (DT.ninD hr.rm (DX.var (i := 2) rfl) (DX.var (i := 3) rfl)) rfl rfl))) (fun _ _ _ _ _ => (DX.pu (DX.var (i := 2) rfl) rfl rfl)) (by decide)) (by exact trivial) sc16.nd (i := 5) rfl rfl (by show 5 ∉ ([] : List Nat); decide)) rfl (by exact rfl)) <|
    DR.retO (f := fun (s : mdiffering_runs_S) => (mdiffering_runs_c4 s)) (DO.ofC (fm := mfrom_borders_fm K) (ω := (oList (tTp [(tInt K), (tInt K)]))) (DC.call ((mfrom_borders_ok T).mono (by decide)) hr T.g12 T.F12.kp T.b12 (DA.cons (DX.ofL (DO.sorted ll_list T.n_sorted (DX.ofL (DO.cat ll_list ll_list (DX.var (i := 5) rfl) (DX.ofL (DO.lc (own := [("border", 2)]) (Δb := ([.fz (tList (tInt K)) (fun (s : (mdiffering_runs_S × Int)) => s.1.1), .fz (tList (tInt K)) (fun (s : (mdiffering_runs_S × Int)) => s.1.2.1), .fz (tInt K) (fun (s : (mdiffering_runs_S × Int)) => s.2), .fz (tDic K) (fun (s : (mdiffering_runs_S × Int)) => (mdiffering_runs_v_known_1 s.1)), .fz (tDic K) (fun (s : (mdiffering_runs_S × Int)) => (mdiffering_runs_v_own_2 s.1)), .fz (tList (tInt K)) (fun (s : (mdiffering_runs_S × Int)) => (mdiffering_runs_v_found_3 s.1))] : Ctx K (mdiffering_runs_S × Int))) sc16.nd (DI.list ll_list (DX.var (i := 1) rfl)) (blkOk_by (N := ["borders", "others", "border", "known", "own", "found"]) (sc := defScope (topS 16)) (own := [("border", 2)]) (by decide +kernel)) (fun _ _ _ _ _ => (DG.name (i := 2) sc16.nd rfl (.inl rfl))) (fun _ _ _ _ _ => (DTs'.one (DT.pu (DT.ninD hr.rm (DX.var (i := 2) rfl) (DX.var (i := 4) rfl)) rfl rfl))) (fun _ _ _ _ _ => (DX.pu (DX.var (i := 2) rfl) rfl rfl)) (by decide))))))) DA.nil) (.fz .nil) (.fz .nil) List.nodup_nil (by exact trivial)) rfl (fun _ => HEq.rfl)) (OwnAll.all (by exact trivial)) (.fz (.fz .nil)) (by exact ⟨rfl, fun _ => HEq.rfl, fun _ => rfl⟩)
    ) (by exact fun _ => (hide_eq _).symm) (by exact fun _ h => h)
theorem mclicks_to_meet_ok (T : Tx K mg) : FnG P w K mg base CX0 3 T.a18 T.d18 ["items", "selection", "other"] (SpOf (mclicks_to_meet_fm K) mclicks_to_meet_p mclicks_to_meet) := by
  refine def_ok T.F18 sc18 rfl (by decide) fun cdv A outer s H E hr => ?_
  exact def_fin (Δ := ([.fz (tInt K) (fun (s : mclicks_to_meet_S) => s.1), .fz (tList (tTp [(tInt K), (tInt K)])) (fun (s : mclicks_to_meet_S) => s.2.1), .fz (tList (tTp [(tInt K), (tInt K)])) (fun (s : mclicks_to_meet_S) => s.2.2.1), .dead, .dead, .dead] : Ctx K mclicks_to_meet_S)) (p := mclicks_to_meet_p) (fv := mclicks_to_meet) (
    DR.cons (Δ1 := ([.fz (tInt K) (fun (s : mclicks_to_meet_S) => s.1), .fz (tList (tTp [(tInt K), (tInt K)])) (fun (s : mclicks_to_meet_S) => s.2.1), .fz (tList (tTp [(tInt K), (tInt K)])) (fun (s : mclicks_to_meet_S) => s.2.2.1), .fz (tList (tTp [(tInt K), (tInt K)])) (fun (s : mclicks_to_meet_S) => (mclicks_to_meet_c3 s)), .dead, .dead] : Ctx K mclicks_to_meet_S)) (DS.conv (DS.asg (DX.ofL (DO.ofC (fm := mdiffering_runs_fm K) (ω := (oList (tTp [(tInt K), (tInt K)]))) (DC.call ((mdiffering_runs_ok T).mono (by decide)) hr T.g16 T.F16.kp T.b16 (DA.cons (DX.ofL (DO.ofC (fm := mborders_in_fm K) (ω := (oList (tInt K))) (DC.call ((mborders_in_ok T).mono (by decide)) hr T.g11 T.F11.kp T.b11 (DA.cons (DX.var (i := 1) rfl) DA.nil) (.fz .nil) (.fz .nil) List.nodup_nil (by exact trivial)) rfl (fun _ => HEq.rfl))) (DA.cons (DX.ofL (DO.ofC (fm := mborders_in_fm K) (ω := (oList (tInt K))) (DC.call ((mborders_in_ok T).mono (by decide)) hr T.g11 T.F11.kp T.b11 (DA.cons (DX.var (i := 2) rfl) DA.nil) (.fz .nil) (.fz .nil) List.nodup_nil (by exact trivial)) rfl (fun _ => HEq.rfl))) DA.nil)) (.fz (.fz .nil)) (.fz (.fz .nil)) List.nodup_nil (by exact trivial)) rfl (fun _ => HEq.rfl))) (DG.name (i := 3) sc18.nd rfl (.inl rfl)) (by exact trivial) (by show ∀ j ∈ ([3] : List Nat), j ∉ ([] : List Nat); decide)) rfl (by exact rfl)) <|
    DR.if1 (h := fun (s : mclicks_to_meet_S) => (((dfList (dfT2 dfInt dfInt))).eq (mclicks_to_meet_c3 s) ([] : List (Int × Int)))) (Δ1 := ([.fz (tInt K) (fun (s : mclicks_to_meet_S) => s.1), .fz (tList (tTp [(tInt K), (tInt K)])) (fun (s : mclicks_to_meet_S) => s.2.1), .fz (tList (tTp [(tInt K), (tInt K)])) (fun (s : mclicks_to_meet_S) => s.2.2.1), .fz (tList (tTp [(tInt K), (tInt K)])) (fun (s : mclicks_to_meet_S) => (mclicks_to_meet_c3 s)), .dead, .dead] : Ctx K mclicks_to_meet_S)) (DT.conv (DT.eq hr.rm (dat_list (dat_t2 dat_int dat_int)) (DX.var (i := 3) rfl) (DX.ofL (DO.lst (τ := (tTp [(tInt K), (tInt K)])) DL.nil (hl := fun _ => (by decide : 0 ≤ sizeLine)))) (hn := n64 (m := 3) rfl)) rfl rfl (by exact rfl)) (by exact trivial) (
      DR.ret (f := fun (s : mclicks_to_meet_S) => (some ([] : List (Str × Int)))) (DX.someO nv_lst (DX.ofL (DO.lst (τ := (tTp [(tStr K), (tInt K)])) DL.nil (hl := fun _ => (by decide : 0 ≤ sizeLine))))) (OwnAll.all (by exact trivial)) (.fz (.fz (.fz .nil))) (by exact ⟨rfl, fun _ => HEq.rfl, fun _ => rfl⟩)
    ) (
      DR.cons (Δ1 := ([.fz (tInt K) (fun (s : mclicks_to_meet_S) => s.1), .fz (tList (tTp [(tInt K), (tInt K)])) (fun (s : mclicks_to_meet_S) => s.2.1), .fz (tList (tTp [(tInt K), (tInt K)])) (fun (s : mclicks_to_meet_S) => s.2.2.1), .fz (tList (tTp [(tInt K), (tInt K)])) (fun (s : mclicks_to_meet_S) => (mclicks_to_meet_c3 s)), .fz (tInt K) (fun (s : mclicks_to_meet_S) => (mclicks_to_meet_v_first_4 s)), .fz (tInt K) (fun (s : mclicks_to_meet_S) => (mclicks_to_meet_v_last_5 s))] : Ctx K mclicks_to_meet_S)) (DS.conv (DS.par (DV.fz (DX.tix (k := 0) (DX.ix (ll_list (τ := (tTp [(tInt K), (tInt K)]))) ((0 : Int), (0 : Int)) (DX.var (i := 3) rfl) DX.int) .zero)) (DV.fz (DX.tix (k := 1) (DX.ix (ll_list (τ := (tTp [(tInt K), (tInt K)]))) ((0 : Int), (0 : Int)) (DX.var (i := 3) rfl) (DX.neg DX.int)) (.succ .last))) (by exact trivial) sc18.nd (i := 4) (j := 5) rfl rfl (by decide) rfl rfl (by show 4 ∉ ([] : List Nat); decide) (by show 5 ∉ ([] : List Nat); decide)) rfl (by exact rfl)) <|
      DR.if1 (h := fun (s : mclicks_to_meet_S) => (decide ((0 : Int) < (mclicks_to_meet_v_first_4 s)))) (Δ1 := ([.fz (tInt K) (fun (s : mclicks_to_meet_S) => s.1), .fz (tList (tTp [(tInt K), (tInt K)])) (fun (s : mclicks_to_meet_S) => s.2.1), .fz (tList (tTp [(tInt K), (tInt K)])) (fun (s : mclicks_to_meet_S) => s.2.2.1), .fz (tList (tTp [(tInt K), (tInt K)])) (fun (s : mclicks_to_meet_S) => (mclicks_to_meet_c3 s)), .fz (tInt K) (fun (s : mclicks_to_meet_S) => (mclicks_to_meet_v_first_4 s)), .fz (tInt K) (fun (s : mclicks_to_meet_S) => (mclicks_to_meet_v_last_5 s))] : Ctx K mclicks_to_meet_S)) (DT.conv (DT.gt (DX.var (i := 4) rfl) DX.int) rfl rfl (by exact rfl)) (by exact trivial) (
        DR.ret (f := fun (s : mclicks_to_meet_S) => (some ([(("click" : Str), (0 : Int)), (("range" : Str), (mclicks_to_meet_v_last_5 s))] : List (Str × Int)))) (DX.someO nv_lst (DX.ofL (DO.lst (τ := (tTp [(tStr K), (tInt K)])) (DL.cons (DX.tup (DTs.cons (DX.glbS (by rfl) T.c_CLICK (h := ok_str _)) (DTs.one DX.int)) (hl := (by decide : 2 ≤ sizeLine))) (DL.cons (DX.tup (DTs.cons (DX.glbS (by rfl) T.c_RANGE (h := ok_str _)) (DTs.one (DX.var (i := 5) rfl))) (hl := (by decide : 2 ≤ sizeLine))) DL.nil)) (hl := fun _ => (by decide : 2 ≤ sizeLine))))) (OwnAll.all (by exact trivial)) (.fz (.fz (.fz .nil))) (by exact ⟨rfl, fun _ => HEq.rfl, fun _ => rfl⟩)
      ) (
        DR.if1 (h := fun (s : mclicks_to_meet_S) => (decide ((mclicks_to_meet_v_last_5 s) < (s.1 - (1 : Int))))) (Δ1 := ([.fz (tInt K) (fun (s : mclicks_to_meet_S) => s.1), .fz (tList (tTp [(tInt K), (tInt K)])) (fun (s : mclicks_to_meet_S) => s.2.1), .fz (tList (tTp [(tInt K), (tInt K)])) (fun (s : mclicks_to_meet_S) => s.2.2.1), .fz (tList (tTp [(tInt K), (tInt K)])) (fun (s : mclicks_to_meet_S) => (mclicks_to_meet_c3 s)), .fz (tInt K) (fun (s : mclicks_to_meet_S) => (mclicks_to_meet_v_first_4 s)), .fz (tInt K) (fun (s : mclicks_to_meet_S) => (mclicks_to_meet_v_last_5 s))] : Ctx K mclicks_to_meet_S)) (DT.conv (DT.lt (DX.var (i := 5) rfl) (DX.sub (DX.var (i := 0) rfl) DX.int)) rfl rfl (by exact rfl)) (by exact trivial) (
          DR.ret (f := fun (s : mclicks_to_meet_S) => (some ([(("click" : Str), (s.1 - (1 : Int))), (("range" : Str), (mclicks_to_meet_v_first_4 s))] : List (Str × Int)))) (DX.someO nv_lst (DX.ofL (DO.lst (τ := (tTp [(tStr K), (tInt K)])) (DL.cons (DX.tup (DTs.cons (DX.glbS (by rfl) T.c_CLICK (h := ok_str _)) (DTs.one (DX.sub (DX.var (i := 0) rfl) DX.int))) (hl := (by decide : 2 ≤ sizeLine))) (DL.cons (DX.tup (DTs.cons (DX.glbS (by rfl) T.c_RANGE (h := ok_str _)) (DTs.one (DX.var (i := 4) rfl))) (hl := (by decide : 2 ≤ sizeLine))) DL.nil)) (hl := fun _ => (by decide : 2 ≤ sizeLine))))) (OwnAll.all (by exact trivial)) (.fz (.fz (.fz .nil))) (by exact ⟨rfl, fun _ => HEq.rfl, fun _ => rfl⟩)
        ) (
          DR.if1 (h := fun (s : mclicks_to_meet_S) => ((dfInt).eq (((mclicks_to_meet_c3 s)).length : Int) (1 : Int))) (Δ1 := ([.fz (tInt K) (fun (s : mclicks_to_meet_S) => s.1), .fz (tList (tTp [(tInt K), (tInt K)])) (fun (s : mclicks_to_meet_S) => s.2.1), .fz (tList (tTp [(tInt K), (tInt K)])) (fun (s : mclicks_to_meet_S) => s.2.2.1), .fz (tList (tTp [(tInt K), (tInt K)])) (fun (s : mclicks_to_meet_S) => (mclicks_to_meet_c3 s)), .fz (tInt K) (fun (s : mclicks_to_meet_S) => (mclicks_to_meet_v_first_4 s)), .fz (tInt K) (fun (s : mclicks_to_meet_S) => (mclicks_to_meet_v_last_5 s))] : Ctx K mclicks_to_meet_S)) (DT.conv (DT.eq hr.rm dat_int (DX.len ll_list T.n_len (DX.var (i := 3) rfl)) DX.int (hn := n64 (m := 1) rfl)) rfl rfl (by exact rfl)) (by exact trivial) (
            DR.ret (f := fun (s : mclicks_to_meet_S) => none) DX.nonO (OwnAll.all (by exact trivial)) (.fz (.fz (.fz .nil))) (by exact ⟨rfl, fun _ => HEq.rfl, fun _ => rfl⟩)
          ) (
            DR.ret (f := fun (s : mclicks_to_meet_S) => (some ([(("click" : Str), ((ixI ((0 : Int), (0 : Int)) (mclicks_to_meet_c3 s) (0 : Int)).2 + (1 : Int))), (("range" : Str), (mclicks_to_meet_v_first_4 s)), (("range" : Str), (mclicks_to_meet_v_last_5 s))] : List (Str × Int)))) (DX.someO nv_lst (DX.ofL (DO.lst (τ := (tTp [(tStr K), (tInt K)])) (DL.cons (DX.tup (DTs.cons (DX.glbS (by rfl) T.c_CLICK (h := ok_str _)) (DTs.one (DX.add (DX.tix (k := 1) (DX.ix (ll_list (τ := (tTp [(tInt K), (tInt K)]))) ((0 : Int), (0 : Int)) (DX.var (i := 3) rfl) DX.int) (.succ .last)) DX.int))) (hl := (by decide : 2 ≤ sizeLine))) (DL.cons (DX.tup (DTs.cons (DX.glbS (by rfl) T.c_RANGE (h := ok_str _)) (DTs.one (DX.var (i := 4) rfl))) (hl := (by decide : 2 ≤ sizeLine))) (DL.cons (DX.tup (DTs.cons (DX.glbS (by rfl) T.c_RANGE (h := ok_str _)) (DTs.one (DX.var (i := 5) rfl))) (hl := (by decide : 2 ≤ sizeLine))) DL.nil))) (hl := fun _ => (by decide : 3 ≤ sizeLine))))) (OwnAll.all (by exact trivial)) (.fz (.fz (.fz .nil))) (by exact ⟨rfl, fun _ => HEq.rfl, fun _ => rfl⟩)
          )
        )
      )
    )
    ) (by exact fun _ => (hide_eq _).symm) (by exact fun _ h => h)
theorem mmeeting_clicks_ok (T : Tx K mg) : FnG P w K mg base CX0 6 T.a19 T.d19 ["items", "selection", "other"] (SpOf (mmeeting_clicks_fm K) mmeeting_clicks_p mmeeting_clicks) := by
  refine def_ok T.F19 sc19 rfl (by decide) fun cdv A outer s H E hr => ?_
  exact def_fin (Δ := ([.fz (tInt K) (fun (s : mmeeting_clicks_S) => s.1), .fz (tList (tTp [(tInt K), (tInt K)])) (fun (s : mmeeting_clicks_S) => s.2.1), .fz (tList (tTp [(tInt K), (tInt K)])) (fun (s : mmeeting_clicks_S) => s.2.2.1)] : Ctx K mmeeting_clicks_S)) (p := mmeeting_clicks_p) (fv := mmeeting_clicks) (
    DR.cons (Δ1 := ([.fz (tInt K) (fun (s : mmeeting_clicks_S) => s.1), .fz (tList (tTp [(tInt K), (tInt K)])) (fun (s : mmeeting_clicks_S) => s.2.1), .fz (tList (tTp [(tInt K), (tInt K)])) (fun (s : mmeeting_clicks_S) => s.2.2.1)] : Ctx K mmeeting_clicks_S)) (DS.conv (DS.expr (DX.ofC (fm := mcheck_both_fm K) (τ := (tNone K)) (DC.call ((mcheck_both_ok T).mono (by decide)) hr T.g17 T.F17.kp T.b17 (DA.cons (DX.var (i := 0) rfl) (DA.cons (DX.var (i := 1) rfl) (DA.cons (DX.var (i := 2) rfl) DA.nil))) (.fz (.fz (.fz .nil))) (.fz (.fz (.fz .nil))) List.nodup_nil (by exact trivial)) rfl (fun _ => HEq.rfl)) (by exact trivial)) rfl (by exact rfl)) <|
    DR.ret (f := fun (s : mmeeting_clicks_S) => (mmeeting_clicks_c2 s)) (DX.ofC (fm := mclicks_to_meet_fm K) (τ := (tOpt (tList (tTp [(tStr K), (tInt K)])))) (DC.call ((mclicks_to_meet_ok T).mono (by decide)) hr T.g18 T.F18.kp T.b18 (DA.cons (DX.var (i := 0) rfl) (DA.cons (DX.var (i := 1) rfl) (DA.cons (DX.var (i := 2) rfl) DA.nil))) (.fz (.fz (.fz .nil))) (.fz (.fz (.fz .nil))) List.nodup_nil (by exact trivial)) rfl (fun _ => HEq.rfl)) (OwnAll.all (by exact trivial)) (.fz (.fz (.fz .nil))) (by exact ⟨rfl, fun _ => HEq.rfl, fun _ => rfl⟩)
    ) (by exact fun _ => (hide_eq _).symm) (by exact fun _ h => h)
theorem mfewest_to_meet_ok (T : Tx K mg) : FnG P w K mg base CX0 7 T.a20 T.d20 ["items", "selection", "other"] (SpOf (mfewest_to_meet_fm K) mfewest_to_meet_p mfewest_to_meet) := by
  refine def_ok T.F20 sc20 rfl (by decide) fun cdv A outer s H E hr => ?_
  exact def_fin (Δ := ([.fz (tInt K) (fun (s : mfewest_to_meet_S) => s.1), .fz (tList (tTp [(tInt K), (tInt K)])) (fun (s : mfewest_to_meet_S) => s.2.1), .fz (tList (tTp [(tInt K), (tInt K)])) (fun (s : mfewest_to_meet_S) => s.2.2.1), .dead] : Ctx K mfewest_to_meet_S)) (p := mfewest_to_meet_p) (fv := mfewest_to_meet) (
    DR.cons (Δ1 := ([.fz (tInt K) (fun (s : mfewest_to_meet_S) => s.1), .fz (tList (tTp [(tInt K), (tInt K)])) (fun (s : mfewest_to_meet_S) => s.2.1), .fz (tList (tTp [(tInt K), (tInt K)])) (fun (s : mfewest_to_meet_S) => s.2.2.1), .fz (tOpt (tList (tTp [(tStr K), (tInt K)]))) (fun (s : mfewest_to_meet_S) => (mfewest_to_meet_c1 s))] : Ctx K mfewest_to_meet_S)) (DS.conv (DS.asg (DX.ofC (fm := mmeeting_clicks_fm K) (τ := (tOpt (tList (tTp [(tStr K), (tInt K)])))) (DC.call ((mmeeting_clicks_ok T).mono (by decide)) hr T.g19 T.F19.kp T.b19 (DA.cons (DX.var (i := 0) rfl) (DA.cons (DX.var (i := 1) rfl) (DA.cons (DX.var (i := 2) rfl) DA.nil))) (.fz (.fz (.fz .nil))) (.fz (.fz (.fz .nil))) List.nodup_nil (by exact trivial)) rfl (fun _ => HEq.rfl)) (DG.name (i := 3) sc20.nd rfl (.inl rfl)) (by exact trivial) (by show ∀ j ∈ ([3] : List Nat), j ∉ ([] : List Nat); decide)) rfl (by exact rfl)) <|
    DR.ret (f := fun (s : mfewest_to_meet_S) => (if ((mfewest_to_meet_c1 s)).isNone = true then none else (some (((((mfewest_to_meet_c1 s)).getD ([] : List (Str × Int)))).length : Int)))) (DX.ite (DT.isN (DX.var (i := 3) rfl)) (DX.pu DX.nonO rfl rfl) (DX.pu (DX.someO nv_int (DX.len ll_list T.n_len (DX.getO (τ := (tList (tTp [(tStr K), (tInt K)]))) ([] : List (Str × Int)) (DX.var (i := 3) rfl)))) rfl rfl)) (OwnAll.all (by exact trivial)) (.fz (.fz (.fz .nil))) (by exact ⟨rfl, fun _ => HEq.rfl, fun _ => rfl⟩)
    ) (by exact fun _ => (hide_eq _).symm) (by exact fun _ h => h)
theorem m_law_right_ok (T : Tx K mg) : FnG P w K mg base CX0 8 T.a28 T.d28 ["_law_size", "_law_one", "_law_two"] (SpOf (m_law_right_fm K) m_law_right_p m_law_right) := by
  refine def_ok T.F28 sc28 rfl (by decide) fun cdv A outer s H E hr => ?_
  exact def_fin (Δ := ([.fz (tInt K) (fun (s : m_law_right_S) => s.1), .fz (tSeq (tBool K)) (fun (s : m_law_right_S) => s.2.1), .fz (tSeq (tBool K)) (fun (s : m_law_right_S) => s.2.2.1), .dead, .dead, .dead, .dead, .dead, .dead, .dead, .dead, .dead] : Ctx K m_law_right_S)) (p := m_law_right_p) (fv := m_law_right) (
    DR.cons (Δ1 := ([.fz (tInt K) (fun (s : m_law_right_S) => s.1), .fz (tSeq (tBool K)) (fun (s : m_law_right_S) => s.2.1), .fz (tSeq (tBool K)) (fun (s : m_law_right_S) => s.2.2.1), .dead, .fz (tList (tTp [(tInt K), (tInt K)])) (fun (s : m_law_right_S) => (m_law_right_v_segments_2 s)), .fz (tOpt (tInt K)) (fun (s : m_law_right_S) => (m_law_right_c1 s)), .dead, .dead, .dead, .dead, .dead, .dead] : Ctx K m_law_right_S)) (DS.conv (DS.par (DV.fz (DX.ofL (DO.lc (own := [("_law_at", 3)]) (Δb := ([.fz (tInt K) (fun (s : (m_law_right_S × Int)) => s.1.1), .fz (tSeq (tBool K)) (fun (s : (m_law_right_S × Int)) => s.1.2.1), .fz (tSeq (tBool K)) (fun (s : (m_law_right_S × Int)) => s.1.2.2.1), .fz (tInt K) (fun (s : (m_law_right_S × Int)) => s.2), .dead, .dead, .dead, .dead, .dead, .dead, .dead, .dead] : Ctx K (m_law_right_S × Int))) sc28.nd (DI.range1 T.n_range (DX.var (i := 0) rfl)) (blkOk_by (N := ["_law_size", "_law_one", "_law_two", "_law_at", "_law_segments", "_law_due", "_law_picked", "_law_matched", "_law_before", "_law_told", "_law_left", "_law_right_here"]) (sc := defScope (topS 28)) (own := [("_law_at", 3)]) (by decide +kernel)) (fun _ _ _ _ _ => (DG.name (i := 3) sc28.nd rfl (.inl rfl))) (fun _ _ _ _ _ => DTs'.nil) (fun _ _ _ _ _ => (DX.pu (DX.tup (DTs.cons (DX.var (i := 3) rfl) (DTs.one (DX.var (i := 3) rfl))) (hl := (by decide : 2 ≤ sizeLine))) rfl rfl)) (by decide)))) (DV.fz (DX.ofC (fm := m_law_search_fm K) (τ := (tOpt (tInt K))) (DC.call ((m_law_search_ok T).mono (by decide)) hr T.g27 T.F27.kp T.b27 (DA.cons (DX.var (i := 0) rfl) (DA.cons (DX.var (i := 1) rfl) (DA.cons (DX.var (i := 2) rfl) DA.nil))) (.fz (.fz (.fz .nil))) (.fz (.fz (.fz .nil))) List.nodup_nil (by exact trivial)) rfl (fun _ => HEq.rfl))) (by exact trivial) sc28.nd (i := 4) (j := 5) rfl rfl (by decide) rfl rfl (by show 4 ∉ ([] : List Nat); decide) (by show 5 ∉ ([] : List Nat); decide)) rfl (by exact rfl)) <|
    DR.cons (Δ1 := ([.fz (tInt K) (fun (s : m_law_right_S) => s.1), .fz (tSeq (tBool K)) (fun (s : m_law_right_S) => s.2.1), .fz (tSeq (tBool K)) (fun (s : m_law_right_S) => s.2.2.1), .dead, .fz (tList (tTp [(tInt K), (tInt K)])) (fun (s : m_law_right_S) => (m_law_right_v_segments_2 s)), .fz (tOpt (tInt K)) (fun (s : m_law_right_S) => (m_law_right_c1 s)), .fz (tList (tTp [(tInt K), (tInt K)])) (fun (s : m_law_right_S) => (m_law_right_c3 s)), .fz (tList (tTp [(tInt K), (tInt K)])) (fun (s : m_law_right_S) => (m_law_right_c4 s)), .dead, .dead, .dead, .dead] : Ctx K m_law_right_S)) (DS.conv (DS.par (DV.fz (DX.ofL (DO.ofC (fm := m_law_runs_fm K) (ω := (oList (tTp [(tInt K), (tInt K)]))) (DC.call ((m_law_runs_ok T).mono (by decide)) hr T.g25 T.F25.kp T.b25 (DA.cons (DX.var (i := 4) rfl) (DA.cons (DX.var (i := 1) rfl) DA.nil)) (.fz (.fz .nil)) (.fz (.fz .nil)) List.nodup_nil (by exact trivial)) rfl (fun _ => HEq.rfl)))) (DV.fz (DX.ofL (DO.ofC (fm := m_law_runs_fm K) (ω := (oList (tTp [(tInt K), (tInt K)]))) (DC.call ((m_law_runs_ok T).mono (by decide)) hr T.g25 T.F25.kp T.b25 (DA.cons (DX.var (i := 4) rfl) (DA.cons (DX.var (i := 2) rfl) DA.nil)) (.fz (.fz .nil)) (.fz (.fz .nil)) List.nodup_nil (by exact trivial)) rfl (fun _ => HEq.rfl)))) (by exact trivial) sc28.nd (i := 6) (j := 7) rfl rfl (by decide) rfl rfl (by show 6 ∉ ([] : List Nat); decide) (by show 7 ∉ ([] : List Nat); decide)) rfl (by exact rfl)) <|
    DR.cons (Δ1 := ([.fz (tInt K) (fun (s : m_law_right_S) => s.1), .fz (tSeq (tBool K)) (fun (s : m_law_right_S) => s.2.1), .fz (tSeq (tBool K)) (fun (s : m_law_right_S) => s.2.2.1), .dead, .fz (tList (tTp [(tInt K), (tInt K)])) (fun (s : m_law_right_S) => (m_law_right_v_segments_2 s)), .fz (tOpt (tInt K)) (fun (s : m_law_right_S) => (m_law_right_c1 s)), .fz (tList (tTp [(tInt K), (tInt K)])) (fun (s : m_law_right_S) => (m_law_right_c3 s)), .fz (tList (tTp [(tInt K), (tInt K)])) (fun (s : m_law_right_S) => (m_law_right_c4 s)), .fz (tTxt K) (fun (s : m_law_right_S) => (m_law_right_v_before_5 s)), .dead, .dead, .dead] : Ctx K m_law_right_S)) (DS.conv (DS.asg (DX.repr hr (dat_list (dat_list (dat_t2 dat_int dat_int))) T.n_repr (DX.ofL (DO.lst (τ := (tList (tTp [(tInt K), (tInt K)]))) (DL.cons (DX.var (i := 6) rfl) (DL.cons (DX.var (i := 7) rfl) DL.nil)) (hl := fun _ => (by decide : 2 ≤ sizeLine)))) (hn := n64 (m := 4) rfl)) (DG.name (i := 8) sc28.nd rfl (.inl rfl)) (by exact trivial) (by show ∀ j ∈ ([8] : List Nat), j ∉ ([] : List Nat); decide)) rfl (by exact rfl)) <|
    DR.cons (Δ1 := ([.fz (tInt K) (fun (s : m_law_right_S) => s.1), .fz (tSeq (tBool K)) (fun (s : m_law_right_S) => s.2.1), .fz (tSeq (tBool K)) (fun (s : m_law_right_S) => s.2.2.1), .dead, .fz (tList (tTp [(tInt K), (tInt K)])) (fun (s : m_law_right_S) => (m_law_right_v_segments_2 s)), .fz (tOpt (tInt K)) (fun (s : m_law_right_S) => (m_law_right_c1 s)), .fz (tList (tTp [(tInt K), (tInt K)])) (fun (s : m_law_right_S) => (m_law_right_c3 s)), .fz (tList (tTp [(tInt K), (tInt K)])) (fun (s : m_law_right_S) => (m_law_right_c4 s)), .fz (tTxt K) (fun (s : m_law_right_S) => (m_law_right_v_before_5 s)), .fz (tList (tOpt (tInt K))) (fun (s : m_law_right_S) => (m_law_right_v_told_8 s)), .dead, .dead] : Ctx K m_law_right_S)) (DS.conv (DS.asg (DX.ofL (DO.lst (τ := (tOpt (tInt K))) (DL.cons (DX.ofC (fm := mfewest_to_meet_fm K) (τ := (tOpt (tInt K))) (DC.call ((mfewest_to_meet_ok T).mono (by decide)) hr T.g20 T.F20.kp T.b20 (DA.cons (DX.var (i := 0) rfl) (DA.cons (DX.var (i := 6) rfl) (DA.cons (DX.var (i := 7) rfl) DA.nil))) (.fz (.fz (.fz .nil))) (.fz (.fz (.fz .nil))) List.nodup_nil (by exact trivial)) rfl (fun _ => HEq.rfl)) (DL.cons (DX.ofC (fm := mfewest_to_meet_fm K) (τ := (tOpt (tInt K))) (DC.callK0 ((mfewest_to_meet_ok T).mono (by decide)) hr T.g20 T.F20.kp T.bk20_0 (by decide) (DKs.cons (DX.var (i := 7) rfl) (DKs.cons (DX.var (i := 6) rfl) (DKs.cons (DX.var (i := 0) rfl) DKs.nil))) rfl (.cons (i := 2) rfl (.cons (i := 1) rfl (.cons (i := 0) rfl .nil))) (.fz (.fz (.fz .nil))) (.fz (.fz (.fz .nil))) rfl) rfl (fun _ => HEq.rfl)) DL.nil)) (hl := fun _ => (by decide : 2 ≤ sizeLine)))) (DG.name (i := 9) sc28.nd rfl (.inl rfl)) (by exact trivial) (by show ∀ j ∈ ([9] : List Nat), j ∉ ([] : List Nat); decide)) rfl (by exact rfl)) <|
    DR.if1 (h := fun (s : m_law_right_S) => ((((dfList dfInt)).eq (lcV (List.zip s.2.1 s.2.2.1) (fun x => ((dfBool).eq (s, x).2.1 (s, x).2.2)) (fun x => (1 : Int))) ([] : List Int)) && ((m_law_right_c1 s)).isSome)) (Δ1 := ([.fz (tInt K) (fun (s : m_law_right_S) => s.1), .fz (tSeq (tBool K)) (fun (s : m_law_right_S) => s.2.1), .fz (tSeq (tBool K)) (fun (s : m_law_right_S) => s.2.2.1), .dead, .fz (tList (tTp [(tInt K), (tInt K)])) (fun (s : m_law_right_S) => (m_law_right_v_segments_2 s)), .fz (tOpt (tInt K)) (fun (s : m_law_right_S) => (m_law_right_c1 s)), .fz (tList (tTp [(tInt K), (tInt K)])) (fun (s : m_law_right_S) => (m_law_right_c3 s)), .fz (tList (tTp [(tInt K), (tInt K)])) (fun (s : m_law_right_S) => (m_law_right_c4 s)), .fz (tTxt K) (fun (s : m_law_right_S) => (m_law_right_v_before_5 s)), .fz (tList (tOpt (tInt K))) (fun (s : m_law_right_S) => (m_law_right_v_told_8 s)), .dead, .dead] : Ctx K m_law_right_S)) (DT.conv (DW.t (DW.and (DT.eq hr.rm (dat_list dat_int) (DX.ofL (DO.lc (own := [("_law_left", 10), ("_law_right_here", 11)]) (Δb := ([.fz (tInt K) (fun (s : (m_law_right_S × (Bool × Bool))) => s.1.1), .fz (tSeq (tBool K)) (fun (s : (m_law_right_S × (Bool × Bool))) => s.1.2.1), .fz (tSeq (tBool K)) (fun (s : (m_law_right_S × (Bool × Bool))) => s.1.2.2.1), .dead, .fz (tList (tTp [(tInt K), (tInt K)])) (fun (s : (m_law_right_S × (Bool × Bool))) => (m_law_right_v_segments_2 s.1)), .fz (tOpt (tInt K)) (fun (s : (m_law_right_S × (Bool × Bool))) => (m_law_right_c1 s.1)), .fz (tList (tTp [(tInt K), (tInt K)])) (fun (s : (m_law_right_S × (Bool × Bool))) => (m_law_right_c3 s.1)), .fz (tList (tTp [(tInt K), (tInt K)])) (fun (s : (m_law_right_S × (Bool × Bool))) => (m_law_right_c4 s.1)), .fz (tTxt K) (fun (s : (m_law_right_S × (Bool × Bool))) => (m_law_right_v_before_5 s.1)), .fz (tList (tOpt (tInt K))) (fun (s : (m_law_right_S × (Bool × Bool))) => (m_law_right_v_told_8 s.1)), .fz (tBool K) (fun (s : (m_law_right_S × (Bool × Bool))) => s.2.1), .fz (tBool K) (fun (s : (m_law_right_S × (Bool × Bool))) => s.2.2)] : Ctx K (m_law_right_S × (Bool × Bool)))) sc28.nd (DI.zipQ T.n_zip (DX.var (i := 1) rfl) (DX.var (i := 2) rfl)) (blkOk_by (N := ["_law_size", "_law_one", "_law_two", "_law_at", "_law_segments", "_law_due", "_law_picked", "_law_matched", "_law_before", "_law_told", "_law_left", "_law_right_here"]) (sc := defScope (topS 28)) (own := [("_law_left", 10), ("_law_right_here", 11)]) (by decide +kernel)) (fun _ _ _ _ _ => (DG.tup (DGs.cons (DG.name (i := 10) sc28.nd rfl (.inl rfl)) (DGs.one (DG.name (i := 11) sc28.nd rfl (.inl rfl)))))) (fun _ _ _ _ _ => (DTs'.one (DT.pu (DT.eq hr.rm dat_bool (DX.var (i := 10) rfl) (DX.var (i := 11) rfl) (hn := n64 (m := 1) rfl)) rfl rfl))) (fun _ _ _ _ _ => (DX.pu DX.int rfl rfl)) (by decide))) (DX.ofL (DO.lst (τ := (tInt K)) DL.nil (hl := fun _ => (by decide : 0 ≤ sizeLine)))) (hn := n64 (m := 2) rfl)) (DW.pu (DW.and1 (DT.notN (DX.var (i := 5) rfl))) rfl rfl))) rfl rfl (by exact rfl)) (by exact trivial) (
      DR.ret (f := fun (s : m_law_right_S) => false) DX.fls (OwnAll.all (by exact trivial)) (.fz (.fz (.fz .nil))) (by exact ⟨rfl, fun _ => HEq.rfl, fun _ => rfl⟩)
    ) (
      DR.ret (f := fun (s : m_law_right_S) => ((decide ((reprOf (dfList (dfOpt dfInt)) (m_law_right_v_told_8 s)) = (reprOf (dfList (dfOpt dfInt)) ([(m_law_right_c1 s), (m_law_right_c1 s)] : List (Option Int))))) && (decide ((reprOf (dfList (dfList (dfT2 dfInt dfInt))) ([(m_law_right_c3 s), (m_law_right_c4 s)] : List (List (Int × Int)))) = (m_law_right_v_before_5 s))))) (DX.and (DX.eqT (DX.repr hr (dat_list (dat_opt dat_int nn_int)) T.n_repr (DX.var (i := 9) rfl) (hn := n64 (m := 2) rfl)) (DX.repr hr (dat_list (dat_opt dat_int nn_int)) T.n_repr (DX.ofL (DO.lst (τ := (tOpt (tInt K))) (DL.cons (DX.var (i := 5) rfl) (DL.cons (DX.var (i := 5) rfl) DL.nil)) (hl := fun _ => (by decide : 2 ≤ sizeLine)))) (hn := n64 (m := 2) rfl))) (DX.and1 (DX.pu (DX.eqT (DX.repr hr (dat_list (dat_list (dat_t2 dat_int dat_int))) T.n_repr (DX.ofL (DO.lst (τ := (tList (tTp [(tInt K), (tInt K)]))) (DL.cons (DX.var (i := 6) rfl) (DL.cons (DX.var (i := 7) rfl) DL.nil)) (hl := fun _ => (by decide : 2 ≤ sizeLine)))) (hn := n64 (m := 4) rfl)) (DX.var (i := 8) rfl)) rfl rfl))) (OwnAll.all (by exact trivial)) (.fz (.fz (.fz .nil))) (by exact ⟨rfl, fun _ => HEq.rfl, fun _ => rfl⟩)
    )
    ) (by exact fun _ => (hide_eq _).symm) (by exact fun _ h => h)
theorem mlaw_ok (T : Tx K mg) : FnG P w K mg base CX0 9 T.a29 T.d29 ["_law_script"] (SpOf (mlaw_fm K) mlaw_p mlaw) := by
  refine def_ok T.F29 sc29 rfl (by decide) fun cdv A outer s H E hr => ?_
  exact def_fin (Δ := ([.fz (tScr K) (fun (s : mlaw_S) => s.1), .dead, .dead, .dead, .dead, .dead, .dead, .dead] : Ctx K mlaw_S)) (p := mlaw_p) (fv := mlaw) (
    DR.consM (Δ1 := ([.fz (tScr K) (fun (s : mlaw_S) => s.1), .dead, .dead, .dead, .dead, .dead, .dead, .dead] : Ctx K mlaw_S)) (r := fun s => mlaw_L1R s) (DSm.conv (DSm.forH (r := fun s => mlaw_L1r s) (S := mlaw_S) (M := mlaw_L1M) (τ := (tInt K)) (init := fun s => mlaw_L1i s) (step := fun s => mlaw_L1s s) (fx := fun s => mlaw_L1x s) (Δ1 := ([.fz (tScr K) (fun (s : mlaw_S) => s.1), .dead, .dead, .dead, .dead, .dead, .dead, .dead] : Ctx K mlaw_S)) (Δl := ([.fz (tScr K) (fun (s : (mlaw_S × mlaw_L1M)) => s.1.1), .dead, .dead, .dead, .dead, .dead, .dead, .dead] : Ctx K (mlaw_S × mlaw_L1M))) (Δb := ([.fz (tScr K) (fun (s : mlaw_L1T) => s.1.1.1), .fz (tInt K) (fun (s : mlaw_L1T) => s.2), .dead, .dead, .dead, .dead, .dead, .dead] : Ctx K mlaw_L1T)) (Δe := ([.fz (tScr K) (fun (s : mlaw_L1T) => s.1.1.1), .fz (tInt K) (fun (s : mlaw_L1T) => s.2), .ow (oList (tInt K)) (fun (s : mlaw_L1T) => (mlaw_L4 s)), .dead, .dead, .dead, .dead, .dead] : Ctx K mlaw_L1T)) (DI.conv (DI.range1 T.n_range (DX.max2 T.n_max DX.int (DX.min2 T.n_min DX.int (DX.len ll_scr T.n_len (DX.var (i := 0) rfl))))) rfl rfl (by exact rfl)) (by exact trivial) (.keep (.dead (.dead (.dead (.dead (.dead (.dead (.dead .nil)))))))) (DG.name (i := 1) sc29.nd rfl (.inl rfl)) (by show ∀ j ∈ ([1] : List Nat), j ∉ ([] : List Nat); decide) (
      DM.cons (Δ1 := ([.fz (tScr K) (fun (s : mlaw_L1T) => s.1.1.1), .fz (tInt K) (fun (s : mlaw_L1T) => s.2), .ow (oList (tInt K)) (fun (s : mlaw_L1T) => (mlaw_c3 s)), .dead, .dead, .dead, .dead, .dead] : Ctx K mlaw_L1T)) (DS.conv (DS.setO (DO.ofC (fm := m_law_pool_fm K) (ω := (oList (tInt K))) (DC.call ((m_law_pool_ok T).mono (by decide)) hr T.g23 T.F23.kp T.b23 (DA.cons (DX.ofC (fm := m_law_cell_at_fm K) (τ := (tInt K)) (DC.call ((m_law_cell_at_ok T).mono (by decide)) hr T.g22 T.F22.kp T.b22 (DA.cons (DX.var (i := 0) rfl) (DA.cons (DX.var (i := 1) rfl) DA.nil)) (.fz (.fz .nil)) (.fz (.fz .nil)) List.nodup_nil (by exact trivial)) rfl (fun _ => HEq.rfl)) (DA.cons (DX.var (i := 1) rfl) DA.nil)) (.fz (.fz .nil)) (.fz (.fz .nil)) List.nodup_nil (by exact trivial)) rfl (fun _ => HEq.rfl)) (by exact trivial) sc29.nd (i := 2) rfl (.inr rfl) (by show 2 ∉ ([] : List Nat); decide)) rfl (by exact rfl)) <|
      DM.consM (Δ1 := ([.fz (tScr K) (fun (s : mlaw_L1T) => s.1.1.1), .fz (tInt K) (fun (s : mlaw_L1T) => s.2), .ow (oList (tInt K)) (fun (s : mlaw_L1T) => (mlaw_L4 s)), .dead, .dead, .dead, .dead, .dead] : Ctx K mlaw_L1T)) (r := fun s => mlaw_L4R s) (DSm.conv (DSm.forH (r := fun s => mlaw_L4r s) (S := mlaw_L1T) (M := mlaw_L4M) (τ := (tInt K)) (init := fun s => mlaw_L4i s) (step := fun s => mlaw_L4s s) (fx := fun s => mlaw_L4x s) (Δ1 := ([.fz (tScr K) (fun (s : mlaw_L1T) => s.1.1.1), .fz (tInt K) (fun (s : mlaw_L1T) => s.2), .ow (oList (tInt K)) (fun (s : mlaw_L1T) => (mlaw_c3 s)), .dead, .dead, .dead, .dead, .dead] : Ctx K mlaw_L1T)) (Δl := ([.fz (tScr K) (fun (s : (mlaw_L1T × mlaw_L4M)) => s.1.1.1.1), .fz (tInt K) (fun (s : (mlaw_L1T × mlaw_L4M)) => s.1.2), .ow (oList (tInt K)) (fun (s : (mlaw_L1T × mlaw_L4M)) => s.2), .dead, .dead, .dead, .dead, .dead] : Ctx K (mlaw_L1T × mlaw_L4M))) (Δb := ([.fz (tScr K) (fun (s : mlaw_L4T) => s.1.1.1.1.1), .fz (tInt K) (fun (s : mlaw_L4T) => s.1.1.2), .ow (oList (tInt K)) (fun (s : mlaw_L4T) => s.1.2), .fz (tInt K) (fun (s : mlaw_L4T) => s.2), .dead, .dead, .dead, .dead] : Ctx K mlaw_L4T)) (Δe := ([.fz (tScr K) (fun (s : mlaw_L4T) => s.1.1.1.1.1), .fz (tInt K) (fun (s : mlaw_L4T) => s.1.1.2), .ow (oList (tInt K)) (fun (s : mlaw_L4T) => (mlaw_v_pool_here_8 s)), .fz (tInt K) (fun (s : mlaw_L4T) => s.2), .fz (tInt K) (fun (s : mlaw_L4T) => (mlaw_v_size_6 s)), .dead, .dead, .fz (tList (tSeq (tBool K))) (fun (s : mlaw_L4T) => (mlaw_v_sides_9 s))] : Ctx K mlaw_L4T)) (DI.conv (DI.range1 T.n_range DX.int) rfl rfl (by exact rfl)) (by exact trivial) (.keep (.keep (.ow (ω := (oList (tInt K))) (fun (m : mlaw_L4M) => m) (fun _ => by rfl) (.dead (.dead (.dead (.dead (.dead .nil)))))))) (DG.name (i := 3) sc29.nd rfl (.inl rfl)) (by show ∀ j ∈ ([3] : List Nat), j ∉ ([] : List Nat); decide) (
        DM.cons (Δ1 := ([.fz (tScr K) (fun (s : mlaw_L4T) => s.1.1.1.1.1), .fz (tInt K) (fun (s : mlaw_L4T) => s.1.1.2), .ow (oList (tInt K)) (fun (s : mlaw_L4T) => (mlaw_c5 s).1), .fz (tInt K) (fun (s : mlaw_L4T) => s.2), .fz (tInt K) (fun (s : mlaw_L4T) => (mlaw_v_size_6 s)), .dead, .dead, .dead] : Ctx K mlaw_L4T)) (DS.conv (DS.asg (DX.add DX.int (DX.ofC (fm := m_law_draw_fm K) (τ := (tInt K)) (DC.call ((m_law_draw_ok T).mono (by decide)) hr T.g24 T.F24.kp T.b24 (DA.mu (j := 2) rfl (DA.cons (DX.ite (DT.eq hr.rm dat_scr (DX.var (i := 0) rfl) (DX.scrL (DX.ofL (DO.lst (τ := (tInt K)) DL.nil (hl := fun _ => (by decide : 0 ≤ sizeLine))))) (hn := n64 (m := 2) rfl)) (DX.pu DX.int rfl rfl) (DX.pu DX.int rfl rfl)) DA.nil)) (.mu rfl (.fz .nil)) (.mu (.fz .nil)) nd1 (by exact ⟨⟨_, _, rfl⟩, trivial⟩)) rfl (fun _ => HEq.rfl))) (DG.name (i := 4) sc29.nd rfl (.inr rfl)) (by exact ⟨⟨_, _, rfl⟩, trivial⟩) (by show ∀ j ∈ ([4] : List Nat), j ∉ ([] : List Nat); decide)) rfl (by exact rfl)) <|
        DM.cons (Δ1 := ([.fz (tScr K) (fun (s : mlaw_L4T) => s.1.1.1.1.1), .fz (tInt K) (fun (s : mlaw_L4T) => s.1.1.2), .ow (oList (tInt K)) (fun (s : mlaw_L4T) => (mlaw_v_pool_here_8 s)), .fz (tInt K) (fun (s : mlaw_L4T) => s.2), .fz (tInt K) (fun (s : mlaw_L4T) => (mlaw_v_size_6 s)), .dead, .dead, .fz (tList (tSeq (tBool K))) (fun (s : mlaw_L4T) => (mlaw_v_sides_9 s))] : Ctx K mlaw_L4T)) (DS.conv (DS.setSF (DOS.lcE 2 (ω := (oList (tInt K))) (own := [("_law_side", 5)]) (Δb := ([.fz (tScr K) (fun (s : ((mlaw_L4T × (List Int)) × Int)) => s.1.1.1.1.1.1.1), .fz (tInt K) (fun (s : ((mlaw_L4T × (List Int)) × Int)) => s.1.1.1.1.2), .ow (oList (tInt K)) (fun (s : ((mlaw_L4T × (List Int)) × Int)) => s.1.2), .fz (tInt K) (fun (s : ((mlaw_L4T × (List Int)) × Int)) => s.1.1.2), .fz (tInt K) (fun (s : ((mlaw_L4T × (List Int)) × Int)) => (mlaw_v_size_6 s.1.1)), .fz (tInt K) (fun (s : ((mlaw_L4T × (List Int)) × Int)) => s.2), .dead, .dead] : Ctx K ((mlaw_L4T × (List Int)) × Int))) (Δb' := ([.fz (tScr K) (fun (s : ((mlaw_L4T × (List Int)) × Int)) => s.1.1.1.1.1.1.1), .fz (tInt K) (fun (s : ((mlaw_L4T × (List Int)) × Int)) => s.1.1.1.1.2), .ow (oList (tInt K)) (fun (s : ((mlaw_L4T × (List Int)) × Int)) => (LoopF (fun m x => (mlaw_c7 ((s, m), x)).1) (rangeL (mlaw_v_size_6 s.1.1)) s.1.2)), .fz (tInt K) (fun (s : ((mlaw_L4T × (List Int)) × Int)) => s.1.1.2), .fz (tInt K) (fun (s : ((mlaw_L4T × (List Int)) × Int)) => (mlaw_v_size_6 s.1.1)), .fz (tInt K) (fun (s : ((mlaw_L4T × (List Int)) × Int)) => s.2), .dead, .dead] : Ctx K ((mlaw_L4T × (List Int)) × Int))) (fm := fun (s : ((mlaw_L4T × (List Int)) × Int)) => (LoopF (fun m x => (mlaw_c7 ((s, m), x)).1) (rangeL (mlaw_v_size_6 s.1.1)) s.1.2)) sc29.nd (DI.range1 T.n_range DX.int) rfl (blkOk_by (N := ["_law_script", "_law_k", "_law_pool_here", "_law_turn", "_law_size", "_law_side", "_law_at", "_law_sides"]) (sc := defScope (topS 29)) (own := [("_law_side", 5)]) (by decide +kernel)) (by show 2 ∉ ([5] : List Nat); decide) (fun _ _ _ _ _ => (DG.name (i := 5) sc29.nd rfl (.inl rfl))) (fun _ _ _ _ _ => (DX.conv (f' := fun (s : ((mlaw_L4T × (List Int)) × Int)) => ((LcE (fun m x => ((dfInt).eq (mlaw_c7 ((s, m), x)).2 (0 : Int))) (fun m x => (mlaw_c7 ((s, m), x)).1) (rangeL (mlaw_v_size_6 s.1.1)) s.1.2))) (DX.tupOf T.n_tuple (DX.ofL (DO.lcE 2 (ω := (oList (tInt K))) (own := [("_law_at", 6)]) (Δb := ([.fz (tScr K) (fun (s : ((((mlaw_L4T × (List Int)) × Int) × (List Int)) × Int)) => s.1.1.1.1.1.1.1.1.1), .fz (tInt K) (fun (s : ((((mlaw_L4T × (List Int)) × Int) × (List Int)) × Int)) => s.1.1.1.1.1.1.2), .ow (oList (tInt K)) (fun (s : ((((mlaw_L4T × (List Int)) × Int) × (List Int)) × Int)) => s.1.2), .fz (tInt K) (fun (s : ((((mlaw_L4T × (List Int)) × Int) × (List Int)) × Int)) => s.1.1.1.1.2), .fz (tInt K) (fun (s : ((((mlaw_L4T × (List Int)) × Int) × (List Int)) × Int)) => (mlaw_v_size_6 s.1.1.1.1)), .fz (tInt K) (fun (s : ((((mlaw_L4T × (List Int)) × Int) × (List Int)) × Int)) => s.1.1.2), .fz (tInt K) (fun (s : ((((mlaw_L4T × (List Int)) × Int) × (List Int)) × Int)) => s.2), .dead] : Ctx K ((((mlaw_L4T × (List Int)) × Int) × (List Int)) × Int))) (Δb' := ([.fz (tScr K) (fun (s : ((((mlaw_L4T × (List Int)) × Int) × (List Int)) × Int)) => s.1.1.1.1.1.1.1.1.1), .fz (tInt K) (fun (s : ((((mlaw_L4T × (List Int)) × Int) × (List Int)) × Int)) => s.1.1.1.1.1.1.2), .ow (oList (tInt K)) (fun (s : ((((mlaw_L4T × (List Int)) × Int) × (List Int)) × Int)) => (mlaw_c7 s).1), .fz (tInt K) (fun (s : ((((mlaw_L4T × (List Int)) × Int) × (List Int)) × Int)) => s.1.1.1.1.2), .fz (tInt K) (fun (s : ((((mlaw_L4T × (List Int)) × Int) × (List Int)) × Int)) => (mlaw_v_size_6 s.1.1.1.1)), .fz (tInt K) (fun (s : ((((mlaw_L4T × (List Int)) × Int) × (List Int)) × Int)) => s.1.1.2), .fz (tInt K) (fun (s : ((((mlaw_L4T × (List Int)) × Int) × (List Int)) × Int)) => s.2), .dead] : Ctx K ((((mlaw_L4T × (List Int)) × Int) × (List Int)) × Int))) (fm := fun (s : ((((mlaw_L4T × (List Int)) × Int) × (List Int)) × Int)) => (mlaw_c7 s).1) sc29.nd (DI.range1 T.n_range (DX.var (i := 4) rfl)) rfl (blkOk_in (N := ["_law_script", "_law_k", "_law_pool_here", "_law_turn", "_law_size", "_law_side", "_law_at", "_law_sides"]) (sc := defScope (topS 29)) (own := [("_law_at", 6)]) rfl rfl (by decide +kernel)) (by show 2 ∉ ([6] : List Nat); decide) (fun _ _ _ _ _ => (DG.name (i := 6) sc29.nd rfl (.inl rfl))) (fun _ _ _ _ _ => (DX.conv (f' := fun (s : ((((mlaw_L4T × (List Int)) × Int) × (List Int)) × Int)) => ((dfInt).eq (mlaw_c7 s).2 (0 : Int))) (DX.eq hr.rm dat_int (DX.ofC (fm := m_law_draw_fm K) (τ := (tInt K)) (DC.call ((m_law_draw_ok T).mono (by decide)) hr T.g24 T.F24.kp T.b24 (DA.mu (j := 2) rfl (DA.cons DX.int DA.nil)) (.mu rfl (.fz .nil)) (.mu (.fz .nil)) nd1 (by exact ⟨⟨_, _, rfl⟩, trivial⟩)) rfl (fun _ => HEq.rfl)) DX.int (hn := n64 (m := 1) rfl)) rfl rfl (by exact rfl))) rfl (fun k h => by have h2 : k ∈ ([2] : List Nat) := h; simpa using h2) (by decide)))) rfl rfl (by exact rfl))) rfl (fun k h => by have h2 : k ∈ ([2] : List Nat) := h; simpa using h2) (by decide)) (by exact ⟨⟨_, _, rfl⟩, trivial⟩) sc29.nd (i := 7) rfl rfl (by show 7 ∉ ([] : List Nat); decide)) rfl (by exact rfl)) <|
        DM.consM (Δ1 := ([.fz (tScr K) (fun (s : mlaw_L4T) => s.1.1.1.1.1), .fz (tInt K) (fun (s : mlaw_L4T) => s.1.1.2), .ow (oList (tInt K)) (fun (s : mlaw_L4T) => (mlaw_v_pool_here_8 s)), .fz (tInt K) (fun (s : mlaw_L4T) => s.2), .fz (tInt K) (fun (s : mlaw_L4T) => (mlaw_v_size_6 s)), .dead, .dead, .fz (tList (tSeq (tBool K))) (fun (s : mlaw_L4T) => (mlaw_v_sides_9 s))] : Ctx K mlaw_L4T)) (r := fun (s : mlaw_L4T) => (if (mlaw_h11 s) = true then (some false) else none)) (DSm.conv (DSm.ite (h := fun (s : mlaw_L4T) => (mlaw_h11 s)) (Δ1 := ([.fz (tScr K) (fun (s : mlaw_L4T) => s.1.1.1.1.1), .fz (tInt K) (fun (s : mlaw_L4T) => s.1.1.2), .ow (oList (tInt K)) (fun (s : mlaw_L4T) => (mlaw_v_pool_here_8 s)), .fz (tInt K) (fun (s : mlaw_L4T) => s.2), .fz (tInt K) (fun (s : mlaw_L4T) => (mlaw_v_size_6 s)), .dead, .dead, .fz (tList (tSeq (tBool K))) (fun (s : mlaw_L4T) => (mlaw_v_sides_9 s))] : Ctx K mlaw_L4T)) (Δa := ([.fz (tScr K) (fun (s : mlaw_L4T) => s.1.1.1.1.1), .fz (tInt K) (fun (s : mlaw_L4T) => s.1.1.2), .ow (oList (tInt K)) (fun (s : mlaw_L4T) => (mlaw_v_pool_here_8 s)), .fz (tInt K) (fun (s : mlaw_L4T) => s.2), .fz (tInt K) (fun (s : mlaw_L4T) => (mlaw_v_size_6 s)), .dead, .dead, .fz (tList (tSeq (tBool K))) (fun (s : mlaw_L4T) => (mlaw_v_sides_9 s))] : Ctx K mlaw_L4T)) (Δb := ([.fz (tScr K) (fun (s : mlaw_L4T) => s.1.1.1.1.1), .fz (tInt K) (fun (s : mlaw_L4T) => s.1.1.2), .ow (oList (tInt K)) (fun (s : mlaw_L4T) => (mlaw_v_pool_here_8 s)), .fz (tInt K) (fun (s : mlaw_L4T) => s.2), .fz (tInt K) (fun (s : mlaw_L4T) => (mlaw_v_size_6 s)), .dead, .dead, .fz (tList (tSeq (tBool K))) (fun (s : mlaw_L4T) => (mlaw_v_sides_9 s))] : Ctx K mlaw_L4T)) (DT.conv (DT.not (DT.ofX (DX.ofC (fm := m_law_right_fm K) (τ := (tBool K)) (DC.call ((m_law_right_ok T).mono (by decide)) hr T.g28 T.F28.kp T.b28 (DA.cons (DX.var (i := 4) rfl) (DA.cons (DX.ix (ll_list (τ := (tSeq (tBool K)))) ([] : List Bool) (DX.var (i := 7) rfl) DX.int) (DA.cons (DX.ix (ll_list (τ := (tSeq (tBool K)))) ([] : List Bool) (DX.var (i := 7) rfl) DX.int) DA.nil))) (.fz (.fz (.fz .nil))) (.fz (.fz (.fz .nil))) List.nodup_nil (by exact trivial)) rfl (fun _ => HEq.rfl)))) rfl rfl (by exact rfl)) (by exact trivial) (
          DM.ofR <|
          DR.ret (f := fun (s : mlaw_L4T) => false) DX.fls (OwnAll.all (by exact trivial)) (.fz .nil) (by exact ⟨rfl, fun _ => HEq.rfl, fun _ => rfl⟩)
        ) (
          DM.ofN <|
          DN.fin rfl
        ) (.same (.same (.same (.same (.same (.same (.same (.same .nil))))))))) rfl rfl (by exact rfl)) <|
        DM.ofN <|
        DN.fin rfl
      ) (.keep (sl := .fz (tScr K) (fun (s : mlaw_L1T) => s.1.1.1)) (.keep (sl := .fz (tInt K) (fun (s : mlaw_L1T) => s.2)) (.ow (ω := (oList (tInt K))) (pr := fun (m : mlaw_L4M) => m) (fun _ => by rfl) (.dead (.dead (.dead (.dead (.dead .nil))))))))) rfl rfl (by exact rfl)) <|
      DM.ofN <|
      DN.fin rfl
    ) (.keep (sl := .fz (tScr K) (fun (s : mlaw_S) => s.1)) (.dead (.dead (.dead (.dead (.dead (.dead (.dead .nil))))))))) rfl rfl (by exact rfl)) <|
    DR.ret (f := fun (s : mlaw_S) => true) DX.tru (OwnAll.all (by exact trivial)) (.fz .nil) (by exact ⟨rfl, fun _ => HEq.rfl, fun _ => rfl⟩)
    ) (by exact fun _ => (hide_eq _).symm) (by exact fun _ h => h)
end
end Lw

namespace Lw
open PySem PySem.Spec PyProof.Rows L2 Dx
/-! ### numbers -/
theorem bits_lt {v : Int} {k : Nat} (h0 : 0 ≤ v) (h : v < 2 ^ k) : Builtin.Int.intBits v ≤ k := by
  unfold Builtin.Int.intBits
  split
  · exact Nat.zero_le _
  · rename_i n
    have h1 : v.natAbs < 2 ^ k := by
      have e : ((2 ^ k : Nat) : Int) = (2 : Int) ^ k := by simp
      omega
    have h2 : v.natAbs ≠ 0 := fun z => n (by simp; omega)
    exact (Nat.log2_lt h2).mpr h1
theorem pow_ok {v : Int} {j : Int} {k : Nat} (h0 : 0 ≤ v) (h : v < 2 ^ k) (hj : 0 ≤ j) (hk : (k : Int) * j ≤ 134217728) : CPowX v j := by
  refine ⟨hj, ?_⟩
  have h1 : (Builtin.Int.intBits v : Int) ≤ k := by exact_mod_cast bits_lt h0 h
  have h2 : (Builtin.Int.intBits v : Int) * j ≤ (k : Int) * j := Int.mul_le_mul_of_nonneg_right h1 hj
  have : (2 : Int) ^ 27 = 134217728 := by decide
  omega
theorem mul_ok {i j : Int} (h : i.natAbs + j.natAbs < 16777216) : CMulX i j := by
  have h1 := Nat.log2_le_self i.natAbs
  have h2 := Nat.log2_le_self j.natAbs
  unfold CMulX
  omega
theorem log_lt {n k : Nat} (h : n < 2 ^ k) (hk : 0 < k) : n.log2 < k := by
  by_cases e : n = 0
  · subst e
    simpa using hk
  · exact (Nat.log2_lt e).mpr h
/-! ### the draws -/
def Good (n : Nat) (b : List Int) : Prop := ∃ x y z : Int, b = [x, y, z] ∧ 0 ≤ x ∧ 0 ≤ y ∧ y < 2147483629 ∧ 0 ≤ z ∧ z ≤ n
theorem Good.mono {n m : Nat} {b : List Int} (h : Good n b) (hn : n ≤ m) : Good m b := by
  obtain ⟨x, y, z, e, h1, h2, h3, h4, h5⟩ := h
  exact ⟨x, y, z, e, h1, h2, h3, h4, by omega⟩
theorem mul_big {i j : Int} (hi : i.natAbs.log2 ≤ 60) (h : j.natAbs < 16000000) : CMulX i j := by
  have h2 := Nat.log2_le_self j.natAbs
  unfold CMulX
  omega
theorem pool_ok {c k : Int} (h0 : 0 ≤ k) (h1 : k < 1000) : m_law_pool_p (c, k, ()) ∧ Good 0 (m_law_pool (c, k, ())) := by
  refine ⟨⟨pow_ok (k := 4) (by decide) (by decide) (by decide) (by decide), ?_, mul_big (i := 51001) (j := k) (by decide) (by omega), ?_, trivial⟩, ?_⟩
  · show (0 : Int) < 2147483629
    decide
  · show (0 : Int) < 2147483629
    decide
  · unfold m_law_pool
    rw [hide_eq]
    refine ⟨_, _, _, rfl, Int.le_max_right _ _, Int.emod_nonneg _ (by decide), Int.emod_lt_of_pos _ (by decide), by decide, by decide⟩
/-- what a draw says -/
theorem draw {n : Nat} {b : List Int} {c : Int} (g : Good n b) (hn : n ≤ 1000000) (h0 : 0 < c) (h1 : c.natAbs.log2 < 9000) : m_law_draw_p (b, c, ()) ∧ Good (n + 1) (m_law_draw (b, c, ())).1 ∧ 0 ≤ (m_law_draw (b, c, ())).2 ∧ (m_law_draw (b, c, ())).2 < c := by
  obtain ⟨x, y, z, rfl, hx, hy, hy2, hz, hz2⟩ := g
  have i2 : IxOk ([x, y, z] : List Int) 2 := ⟨by simp, by simp⟩
  have e1 : m_law_draw_v_pool_here_1 ([x, y, z], c, ()) = [x, y, z + 1] := rfl
  have q0 : 0 ≤ 7 * (z + 1) * (z + 1) := Int.mul_nonneg (by omega) (by omega)
  have q1 : 7 * (z + 1) * (z + 1) ≤ 7000007 * 1000001 := Int.mul_le_mul (by omega) (by omega) (by omega) (by omega)
  obtain ⟨t, et⟩ : ∃ t, t = (y + 7 * (z + 1) * (z + 1) + 1) ^ 2 % 2147483587 := ⟨_, rfl⟩
  have t0 : 0 ≤ t := by rw [et]; exact Int.emod_nonneg _ (by decide)
  have t1 : t < 2147483587 := by rw [et]; exact Int.emod_lt_of_pos _ (by decide)
  have e2 : m_law_draw_v_stir_2 ([x, y, z], c, ()) = t := by rw [et]; rfl
  obtain ⟨w, ew⟩ : ∃ w, w = (t * 69621 + 40692 * (z + 1)) % 2147483629 := ⟨_, rfl⟩
  have w0 : 0 ≤ w := by rw [ew]; exact Int.emod_nonneg _ (by decide)
  have w1 : w < 2147483629 := by rw [ew]; exact Int.emod_lt_of_pos _ (by decide)
  have e3 : m_law_draw_v_pool_here_3 ([x, y, z], c, ()) = [x, w, z + 1] := by
    unfold m_law_draw_v_pool_here_3
    rw [e2, e1, ew]
    rfl
  have j0 : IxOk ([x, y, z + 1] : List Int) 0 := ⟨by simp, by simp⟩
  have j1 : IxOk ([x, y, z + 1] : List Int) 1 := ⟨by simp, by simp⟩
  have j2 : IxOk ([x, y, z + 1] : List Int) 2 := ⟨by simp, by simp⟩
  have k0 : IxOk (m_law_draw_v_pool_here_3 ([x, y, z], c, ())) 0 := by rw [e3]; exact ⟨by simp, by simp⟩
  have k1 : IxOk (m_law_draw_v_pool_here_3 ([x, y, z], c, ())) 1 := by rw [e3]; exact ⟨by simp, by simp⟩
  have eh : m_law_draw_h7 ([x, y, z], c, ()) = decide (0 < x) := by unfold m_law_draw_h7; rw [e3]; rfl
  refine ⟨⟨i2, i2, j1, j2, mul_big (i := 7) (j := z + 1) (by decide) (by omega), j2, ?_, ?_, ?_, ?_, j2, mul_big (i := 40692) (j := z + 1) (by decide) (by omega), ?_, j1, k1, ?_, h0, k0, fun _ => k0, fun _ => h0, fun _ => k0, fun _ => ⟨h0, h1⟩, fun _ => k0, trivial⟩, ?_⟩
  · show CMulX (7 * (z + 1)) (z + 1)
    refine mul_big (Nat.le_of_lt_succ (Nat.lt_of_lt_of_le (log_lt (n := (7 * (z + 1)).natAbs) (k := 40) (by omega) (by decide)) (by decide))) (by omega)
  · show CPowX (y + 7 * (z + 1) * (z + 1) + 1) 2
    refine pow_ok (k := 60) (by omega) ?_ (by decide) (by decide)
    have : (2 : Int) ^ 60 = 1152921504606846976 := by decide
    omega
  · show (0 : Int) < 2147483587
    decide
  · show CMulX (m_law_draw_v_stir_2 ([x, y, z], c, ())) 69621
    rw [e2]
    refine mul_big (Nat.le_of_lt_succ (Nat.lt_of_lt_of_le (log_lt (n := t.natAbs) (k := 40) (by omega) (by decide)) (by decide))) (by decide)
  · show (0 : Int) < 2147483629
    decide
  · exact ⟨by decide, by decide⟩
  · unfold m_law_draw
    rw [hide_eq]
    show Good (n + 1) (m_law_draw_v_pool_here_8 _) ∧ 0 ≤ m_law_draw_v_found_9 _ ∧ m_law_draw_v_found_9 _ < c
    unfold m_law_draw_v_pool_here_8 m_law_draw_v_found_9 m_law_draw_v_pool_here_6 m_law_draw_v_found_5 m_law_draw_v_found_4
    rw [eh, e3]
    by_cases hx0 : 0 < x
    · rw [decide_eq_true hx0, if_pos rfl, if_pos rfl]
      exact ⟨⟨x / c, w, z + 1, rfl, Int.ediv_nonneg hx (by omega), w0, w1, by omega, by omega⟩, Int.emod_nonneg _ (show c ≠ 0 by omega), Int.emod_lt_of_pos _ h0⟩
    · rw [decide_eq_false hx0, if_neg (by decide), if_neg (by decide)]
      exact ⟨⟨x, w, z + 1, rfl, hx, w0, w1, by omega, by omega⟩, Int.emod_nonneg _ (show c ≠ 0 by omega), Int.emod_lt_of_pos _ h0⟩
end Lw

namespace Lw
open PySem PySem.Spec PyProof.Rows L2 Dx
/-! ### loops -/
theorem loop_inv {M α : Type} {step : M → α → M} {c : M → α → Prop} (I : Nat → M → Prop) : ∀ (xs : List α) (k : Nat) (m : M), I k m → (∀ j m x, k ≤ j → j < k + xs.length → x ∈ xs → I j m → c m x ∧ I (j + 1) (step m x)) → loopC c step xs m ∧ I (k + xs.length) (loopF step xs m)
  | [], k, m, h, _ => ⟨trivial, h⟩
  | x :: xs, k, m, h, hs => by
    obtain ⟨h1, h2⟩ := hs k m x (Nat.le_refl _) (by simp) (List.mem_cons_self ..) h
    obtain ⟨h3, h4⟩ := loop_inv I xs (k + 1) (step m x) h2 fun j m y hj hj2 hy => hs j m y (by omega) (by simp; omega) (List.mem_cons_of_mem _ hy)
    refine ⟨⟨h1, h3⟩, ?_⟩
    rw [show k + (x :: xs).length = k + 1 + xs.length by simp; omega]
    exact h4
theorem rangeL_len (n : Int) : (rangeL n).length = n.toNat := by simp [rangeL]
/-! ### lists of four -/
theorem ix_of {α : Type} {d : α} {xs : List α} {i : Int} {j : Nat} (h : i = (j : Int)) (hj : j < xs.length) : ixI d xs i = xs[j] := by
  subst h
  unfold ixI
  rw [if_pos (by omega)]
  simp [hj]
theorem ix_all {α : Type} {d : α} {xs : List α} {i : Int} (P : α → Prop) (h : IxOk xs i) (hp : ∀ x ∈ xs, P x) : P (ixI d xs i) := by
  obtain ⟨j, _, e⟩ := ix_at (d := d) h
  exact hp _ (List.mem_of_getElem? e)
theorem ten30 : (10 : Int) ^ ((30 : Int)).toNat = 1000000000000000000000000000000 := by decide
theorem ten9 : (10 : Int) ^ ((9 : Int)).toNat = 1000000000 := by decide
theorem ten6 : (10 : Int) ^ ((6 : Int)).toNat = 1000000 := by decide
/-! ### selections -/
def Sel (n : Int) (l : List (Int × Int)) : Prop := (∀ r ∈ l, 0 ≤ r.1 ∧ r.1 ≤ r.2 ∧ r.2 < n) ∧ l.Pairwise fun a b => a.2 + 1 < b.1
theorem Sel.nil {n : Int} : Sel n [] := ⟨fun _ h => (nomatch h), .nil⟩
theorem Sel.sub {n : Int} {l l' : List (Int × Int)} (h : Sel n l) (s : l'.Sublist l) : Sel n l' := ⟨fun r hr => h.1 r (s.subset hr), h.2.sublist s⟩
theorem Sel.erase {n : Int} {l : List (Int × Int)} (h : Sel n l) (i : Int) : Sel n (eraseI l i) := h.sub (List.eraseIdx_sublist _ _)
theorem Sel.snoc {n a b : Int} {l : List (Int × Int)} (h : Sel n l) (h0 : 0 ≤ a) (h1 : a ≤ b) (h2 : b < n) (hf : ∀ r ∈ l, r.2 + 1 < a) : Sel n (l ++ [(a, b)]) := by
  refine ⟨fun r hr => ?_, List.pairwise_append.mpr ⟨h.2, List.pairwise_singleton .., fun x hx y hy => ?_⟩⟩
  · rcases List.mem_append.mp hr with z | z
    · exact h.1 r z
    · rw [List.mem_singleton.mp z]; exact ⟨h0, h1, h2⟩
  · rw [List.mem_singleton.mp hy]; exact hf x hx
end Lw

namespace Lw
open PySem PySem.Spec PyProof.Rows L2 Dx
theorem ix_last {α : Type} {d r : α} {l : List α} : ixI d (l ++ [r]) (-1) = r := by
  unfold ixI
  rw [if_neg (by decide), List.length_append, List.length_singleton, show ((-1 : Int) + ((l.length + 1 : Nat) : Int)).toNat = l.length by omega]
  simp
theorem set_last {α : Type} {r v : α} {l : List α} : setI (l ++ [r]) (-1) v = l ++ [v] := by
  unfold setI
  rw [if_neg (by decide), List.length_append, List.length_singleton, show ((-1 : Int) + ((l.length + 1 : Nat) : Int)).toNat = l.length by omega]
  simp
theorem ixOk_last {α : Type} {l : List α} (h : l ≠ []) : IxOk l (-1) := by
  have : 0 < l.length := List.length_pos_iff.mpr h
  exact ⟨by omega, by omega⟩
theorem Sel.last {n e : Int} {l : List (Int × Int)} {r : Int × Int} (h : Sel n (l ++ [r])) (h1 : r.1 ≤ e) (h2 : e < n) : Sel n (l ++ [(r.1, e)]) := by
  obtain ⟨p, q⟩ := h
  obtain ⟨q1, q2, q3⟩ := List.pairwise_append.mp q
  exact Sel.snoc ⟨fun x hx => p x (List.mem_append_left _ hx), q1⟩ (p r (by simp)).1 h1 h2 fun x hx => q3 x hx r (by simp)
theorem snoc_of {α : Type} {l : List α} (h : l ≠ []) : ∃ l0 r, l = l0 ++ [r] := ⟨_, _, (List.dropLast_concat_getLast h).symm⟩
theorem Sel.put {n : Int} {l : List (Int × Int)} {d : Int × Int} (h : Sel n l) (hl : 1 < l.length) : Sel n (putL l none (some ((l.length : Int) / 2)) [((ixI d l 0).1, (ixI d l ((l.length : Int) / 2 - 1)).2)]) ∧ (putL l none (some ((l.length : Int) / 2)) [((ixI d l 0).1, (ixI d l ((l.length : Int) / 2 - 1)).2)]).length ≤ l.length := by
  have hk : ((l.length : Int) / 2) = ((l.length / 2 : Nat) : Int) := by omega
  have hk2 : (l.length : Int) / 2 - 1 = ((l.length / 2 - 1 : Nat) : Int) := by omega
  have e0 : ixI d l 0 = l[0]'(by omega) := ix_of (j := 0) rfl (by omega)
  have e1 : ixI d l ((l.length : Int) / 2 - 1) = l[l.length / 2 - 1]'(by omega) := ix_of hk2 (by omega)
  have ep : ∀ y, putL l none (some ((l.length : Int) / 2)) y = y ++ l.drop (l.length / 2) := fun y => by
    unfold putL
    rw [hk, show HT.sIx l.length l.length (some ((l.length / 2 : Nat) : Int)) = min (l.length / 2) l.length from HT.sIx_nat ..]
    rw [show HT.sIx l.length 0 none = 0 from HT.sIx_none ..]
    rw [show max 0 (min (l.length / 2) l.length) = l.length / 2 by omega]
    simp
  rw [ep, e0, e1]
  obtain ⟨p, q⟩ := h
  have q' := q
  rw [← List.take_append_drop (l.length / 2) l] at q'
  obtain ⟨q1, q2, q3⟩ := List.pairwise_append.mp q'
  have m0 : l[l.length / 2 - 1]'(by omega) ∈ l.take (l.length / 2) := by
    rw [List.mem_take_iff_getElem]
    exact ⟨l.length / 2 - 1, by omega, rfl⟩
  have v0 := p _ (List.getElem_mem (l := l) (n := 0) (by omega))
  have v1 := p _ (List.getElem_mem (l := l) (n := l.length / 2 - 1) (by omega))
  have le : (l[0]'(by omega)).1 ≤ (l[l.length / 2 - 1]'(by omega)).2 := by
    by_cases z : l.length / 2 - 1 = 0
    · simp only [z]
      exact v0.2.1
    · have := List.pairwise_iff_getElem.mp q 0 (l.length / 2 - 1) (by omega) (by omega) (by omega)
      omega
  refine ⟨⟨fun r hr => ?_, ?_⟩, ?_⟩
  · rcases List.mem_append.mp hr with z | z
    · rw [List.mem_singleton.mp z]
      exact ⟨v0.1, le, v1.2.2⟩
    · exact p r (List.mem_of_mem_drop z)
  · refine List.pairwise_append.mpr ⟨List.pairwise_singleton .., q2, fun x hx y hy => ?_⟩
    rw [List.mem_singleton.mp hx]
    exact q3 _ m0 y hy
  · rw [List.length_append, List.length_drop, List.length_singleton]
    omega
end Lw

namespace Lw
open PySem PySem.Spec PyProof.Rows L2 Dx
theorem df_t {α : Type} {d : DF α} {x y : α} : d.eq x y = true ↔ x = y := @decide_eq_true_iff _ (d.dec x y)
theorem df_f {α : Type} {d : DF α} {x y : α} : d.eq x y = false ↔ x ≠ y := @decide_eq_false_iff_not _ (d.dec x y)
theorem line_big : 100000 ≤ sizeLine := by decide
theorem rg_ok {n : Int} (h0 : 0 ≤ n) (h1 : n ≤ 100000) : RgOk n := ⟨Int.le_trans (by decide) h0, Int.le_trans h1 (Int.ofNat_le.mpr line_big)⟩
theorem wide_ok {z : Int} {n : Nat} (h : z ≤ 1000000000000000000000000000000) (h0 : 0 ≤ z) : z.natAbs.log2 < 9000 := by
  have h1 : z.natAbs < 2 ^ 100 := by
    have e : ((2 ^ 100 : Nat) : Int) = (2 : Int) ^ 100 := by decide
    have : (1000000000000000000000000000000 : Int) < 2 ^ 100 := by decide
    omega
  have := log_lt h1 (by decide)
  omega
theorem loop_none {M α R : Type} {step : M → α → M} {c : M → α → Prop} {r : M → α → Option R} (I : Nat → M → Prop) : ∀ (xs : List α) (k : Nat) (m : M), I k m → (∀ j m x, j < k + xs.length → x ∈ xs → I j m → c m x ∧ r m x = none ∧ I (j + 1) (step m x)) → loopCr c r step xs m ∧ loopR r step xs m = none
  | [], k, m, h, _ => ⟨trivial, rfl⟩
  | x :: xs, k, m, h, hs => by
    obtain ⟨h1, h2, h3⟩ := hs k m x (by simp) (List.mem_cons_self ..) h
    obtain ⟨h4, h5⟩ := loop_none I xs (k + 1) (step m x) h3 fun j m y hj hy => hs j m y (by simp; omega) (List.mem_cons_of_mem _ hy)
    refine ⟨⟨h1, fun _ => h4⟩, ?_⟩
    unfold loopR
    rw [h2]
    exact h5
theorem mem_range {n i : Int} : i ∈ rangeL n ↔ 0 ≤ i ∧ i < n := by
  unfold rangeL
  rw [List.mem_map]
  constructor
  · rintro ⟨k, hk, e⟩
    rw [List.mem_range] at hk
    omega
  · rintro ⟨h1, h2⟩
    exact ⟨i.toNat, List.mem_range.mpr (by omega), by omega⟩
theorem len_log {α : Type} {l : List α} (h : l.length ≤ 1000) : (l.length : Int).natAbs.log2 < 9000 := by
  have := Nat.log2_le_self (l.length : Int).natAbs
  omega
end Lw

/-! Selections, their borders: plain facts. -/
namespace Sx
open PySem Dx
/-! ### slices with a step -/
theorem step_rev {α : Type} (xs : List α) : stepL xs none none (some (-1)) = xs.reverse := by
  unfold stepL
  have e : sliceBounds none none (some (-1)) xs.length = ((xs.length : Int) - 1, -1, -1) := rfl
  rw [e]
  show List.filterMap (xs[·]?) (sliceRange ((xs.length : Int) - 1) (-1) (-1)) = _
  have e2 : sliceRange ((xs.length : Int) - 1) (-1) (-1) = (List.range xs.length).map fun k => xs.length - 1 - k := by
    unfold sliceRange
    have h : ¬ ((-1 : Int) > 0) := by decide
    simp only [h, if_false]
    have h2 : (if (xs.length : Int) - 1 > -1 then ((xs.length : Int) - 1 - -1 - -1 - 1) / (- -1) else 0) = xs.length := by
      split
      · have : ((xs.length : Int) - 1 - -1 - -1 - 1) = xs.length := by omega
        rw [this]
        have : (- -1 : Int) = 1 := by decide
        rw [this, Int.ediv_one]
      · omega
    rw [h2, Int.toNat_natCast]
    apply List.map_congr_left
    intro k hk
    rw [List.mem_range] at hk
    omega
  rw [e2, List.filterMap_map]
  apply List.ext_getElem?
  intro i
  by_cases hi : i < xs.length
  · have key : ∀ n, n ≤ xs.length → (List.filterMap ((fun x => xs[x]?) ∘ fun k => xs.length - 1 - k) (List.range n)) = (xs.reverse).take n := by
      intro n
      induction n with
      | zero => intro _; simp
      | succ n ih =>
        intro hn
        rw [List.range_succ, List.filterMap_append, ih (by omega), List.take_add_one]
        congr 1
        have h1 : xs[xs.length - 1 - n]? = some (xs[xs.length - 1 - n]'(by omega)) := List.getElem?_eq_getElem (by omega)
        simp only [List.filterMap_cons, List.filterMap_nil, Function.comp, h1]
        rw [List.getElem?_reverse (by omega), h1]
        rfl
    rw [key xs.length (Nat.le_refl _), List.take_of_length_le (by simp)]
  · have key : (List.filterMap ((fun x => xs[x]?) ∘ fun k => xs.length - 1 - k) (List.range xs.length)).length ≤ xs.length := by
      refine Nat.le_trans (List.length_filterMap_le _ _) ?_
      simp
    rw [List.getElem?_eq_none (by omega), List.getElem?_eq_none (by simp; omega)]
/-- every second one -/
def evens {α : Type} : List α → List α
  | a :: _ :: r => a :: evens r
  | [a] => [a]
  | [] => []
theorem evens_get {α : Type} : ∀ (xs : List α) (i : Nat), (evens xs)[i]? = xs[2 * i]?
  | [], i => by simp [evens]
  | [a], 0 => rfl
  | [a], i + 1 => by simp [evens]
  | a :: b :: r, 0 => rfl
  | a :: b :: r, i + 1 => by
    show (evens r)[i]? = _
    rw [evens_get r i, show 2 * (i + 1) = 2 * i + 1 + 1 by omega]
    rfl
theorem evens_len {α : Type} : ∀ xs : List α, (evens xs).length = (xs.length + 1) / 2
  | [] => by simp [evens]
  | [a] => by simp [evens]
  | a :: b :: r => by show (evens r).length + 1 = (r.length + 1 + 1 + 1) / 2; rw [evens_len r]; omega
theorem step2 {α : Type} (xs : List α) (lo : Nat) (hlo : lo ≤ 1) : stepL xs (if lo = 0 then none else some 1) none (some 2) = evens (xs.drop lo) := by
  unfold stepL
  have e : sliceBounds (if lo = 0 then none else some 1) none (some 2) xs.length = (((min lo xs.length : Nat) : Int), (xs.length : Int), 2) := by
    have : lo = 0 ∨ lo = 1 := by omega
    rcases this with rfl | rfl
    · simp [sliceBounds]
    · simp only [sliceBounds, Option.getD_some, show ¬ (1 : Nat) = 0 by decide, if_false, show (2 : Int) > 0 by decide, if_true]
      have : ¬ ((1 : Int) < 0) := by decide
      simp only [this, if_false]
      congr 1
      omega
  rw [e]
  show List.filterMap (xs[·]?) (sliceRange ((min lo xs.length : Nat) : Int) (xs.length : Int) 2) = _
  have e2 : sliceRange ((min lo xs.length : Nat) : Int) (xs.length : Int) 2 = (List.range ((xs.length - min lo xs.length + 1) / 2)).map fun k => min lo xs.length + 2 * k := by
    unfold sliceRange
    simp only [show (2 : Int) > 0 by decide, if_true]
    have h2 : (if ((min lo xs.length : Nat) : Int) < (xs.length : Int) then ((xs.length : Int) - ((min lo xs.length : Nat) : Int) + 2 - 1) / 2 else 0) = (((xs.length - min lo xs.length + 1) / 2 : Nat) : Int) := by
      split <;> omega
    rw [h2, Int.toNat_natCast]
    apply List.map_congr_left
    intro k hk
    omega
  rw [e2, List.filterMap_map]
  have hl : (evens (xs.drop lo)).length = (xs.length - min lo xs.length + 1) / 2 := by
    rw [evens_len, List.length_drop]; omega
  have key : ∀ n, n ≤ (xs.length - min lo xs.length + 1) / 2 → (List.filterMap ((fun x => xs[x]?) ∘ fun k => min lo xs.length + 2 * k) (List.range n)) = (evens (xs.drop lo)).take n := by
    intro n
    induction n with
    | zero => intro _; simp
    | succ n ih =>
      intro hn
      rw [List.range_succ, List.filterMap_append, ih (by omega), List.take_add_one]
      congr 1
      have hlt : min lo xs.length + 2 * n < xs.length := by omega
      have h1 : xs[min lo xs.length + 2 * n]? = some (xs[min lo xs.length + 2 * n]'hlt) := List.getElem?_eq_getElem hlt
      simp only [List.filterMap_cons, List.filterMap_nil, Function.comp, h1]
      rw [evens_get, List.getElem?_drop, show lo + 2 * n = min lo xs.length + 2 * n by omega, h1]
      rfl
  rw [key _ (Nat.le_refl _), List.take_of_length_le (by omega)]
theorem step2a {α : Type} (xs : List α) : stepL xs none none (some 2) = evens xs := step2 xs 0 (by decide)
theorem step2b {α : Type} (xs : List α) : stepL xs (some 1) none (some 2) = evens (xs.drop 1) := step2 xs 1 (by decide)
/-! ### borders -/
def bords : List (Int × Int) → List Int
  | [] => []
  | r :: l => r.1 :: (r.2 + 1) :: bords l
def fromB : List Int → List (Int × Int)
  | a :: b :: r => (a, b - 1) :: fromB r
  | _ => []
abbrev Asc (bs : List Int) : Prop := bs.Pairwise (· < ·)
def Sel (n : Int) (l : List (Int × Int)) : Prop := (∀ r ∈ l, 0 ≤ r.1 ∧ r.1 ≤ r.2 ∧ r.2 < n) ∧ l.Pairwise fun a b => a.2 + 1 < b.1
theorem fromB_zip : ∀ bs : List Int, (List.zip (evens bs) (evens (bs.drop 1))).map (fun x => (x.1, x.2 - 1)) = fromB bs
  | [] => rfl
  | [a] => rfl
  | a :: b :: r => by
    have h : evens ((a :: b :: r).drop 1) = b :: evens (r.drop 1) := by
      cases r <;> rfl
    show (List.zip (a :: evens r) (evens ((a :: b :: r).drop 1))).map _ = _
    rw [h]
    show (a, b - 1) :: (List.zip (evens r) (evens (r.drop 1))).map _ = _
    rw [fromB_zip r]
    rfl
theorem bords_len : ∀ l, (bords l).length = 2 * l.length
  | [] => rfl
  | r :: l => by show (bords l).length + 1 + 1 = 2 * (l.length + 1); rw [bords_len l]; omega
theorem fromB_len : ∀ bs, (fromB bs).length = bs.length / 2
  | [] => rfl
  | [a] => by simp [fromB]
  | a :: b :: r => by show (fromB r).length + 1 = (r.length + 1 + 1) / 2; rw [fromB_len r]; omega
theorem fromB_bords : ∀ l, fromB (bords l) = l
  | [] => rfl
  | (a, b) :: l => by
    show (a, b + 1 - 1) :: fromB (bords l) = _
    rw [fromB_bords l, show b + 1 - 1 = b by omega]
theorem bords_fromB : ∀ bs : List Int, bs.length % 2 = 0 → bords (fromB bs) = bs
  | [], _ => rfl
  | [a], h => by simp at h
  | a :: b :: r, h => by
    show a :: (b - 1 + 1) :: bords (fromB r) = _
    rw [bords_fromB r (by simp at h; omega), show b - 1 + 1 = b by omega]
theorem bords_mem : ∀ {l : List (Int × Int)} {x : Int}, x ∈ bords l → ∃ r ∈ l, x = r.1 ∨ x = r.2 + 1
  | r :: l, x, h => by
    rcases List.mem_cons.mp h with h | h
    · exact ⟨r, List.mem_cons_self, .inl h⟩
    · rcases List.mem_cons.mp h with h | h
      · exact ⟨r, List.mem_cons_self, .inr h⟩
      · obtain ⟨q, hq, e⟩ := bords_mem h
        exact ⟨q, List.mem_cons_of_mem _ hq, e⟩
theorem Sel.tail {n : Int} {r : Int × Int} {l : List (Int × Int)} (h : Sel n (r :: l)) : Sel n l := ⟨fun x hx => h.1 x (List.mem_cons_of_mem _ hx), (List.pairwise_cons.mp h.2).2⟩
theorem Sel.bord {n : Int} {l : List (Int × Int)} (h : Sel n l) : ∀ x ∈ bords l, 0 ≤ x ∧ x ≤ n := fun x hx => by
  obtain ⟨r, hr, e⟩ := bords_mem hx
  have := h.1 r hr
  omega
theorem Sel.asc {n : Int} : ∀ {l : List (Int × Int)}, Sel n l → Asc (bords l)
  | [], _ => .nil
  | r :: l, h => by
    have h1 := h.1 r List.mem_cons_self
    have h2 := (List.pairwise_cons.mp h.2).1
    have far : ∀ x ∈ bords l, r.2 + 1 < x := fun x hx => by
      obtain ⟨q, hq, e⟩ := bords_mem hx
      have := h2 q hq
      have := h.1 q (List.mem_cons_of_mem _ hq)
      omega
    refine List.pairwise_cons.mpr ⟨fun x hx => ?_, List.pairwise_cons.mpr ⟨far, h.tail.asc⟩⟩
    rcases List.mem_cons.mp hx with e | hx
    · omega
    · have := far x hx; omega
theorem fromB_mem : ∀ {bs : List Int} {r : Int × Int}, r ∈ fromB bs → r.1 ∈ bs ∧ r.2 + 1 ∈ bs
  | a :: b :: t, r, h => by
    rcases List.mem_cons.mp h with e | h
    · rw [e]
      exact ⟨List.mem_cons_self, by rw [show b - 1 + 1 = b by omega]; exact List.mem_cons_of_mem _ List.mem_cons_self⟩
    · obtain ⟨h1, h2⟩ := fromB_mem h
      exact ⟨List.mem_cons_of_mem _ (List.mem_cons_of_mem _ h1), List.mem_cons_of_mem _ (List.mem_cons_of_mem _ h2)⟩
theorem sel_fromB {n : Int} : ∀ {bs : List Int}, Asc bs → (∀ x ∈ bs, 0 ≤ x ∧ x ≤ n) → Sel n (fromB bs)
  | [], _, _ => ⟨fun _ h => (nomatch h), .nil⟩
  | [a], _, _ => ⟨fun _ h => (nomatch h), .nil⟩
  | a :: b :: r, h, hb => by
    obtain ⟨h1, h2⟩ := List.pairwise_cons.mp h
    obtain ⟨h3, h4⟩ := List.pairwise_cons.mp h2
    have ih := sel_fromB h4 fun x hx => hb x (List.mem_cons_of_mem _ (List.mem_cons_of_mem _ hx))
    have hab := h1 b List.mem_cons_self
    have ha := hb a List.mem_cons_self
    have hb' := hb b (List.mem_cons_of_mem _ List.mem_cons_self)
    refine ⟨fun x hx => ?_, List.pairwise_cons.mpr ⟨fun x hx => ?_, ih.2⟩⟩
    · rcases List.mem_cons.mp hx with e | hx
      · rw [e]; exact ⟨ha.1, by show a ≤ b - 1; omega, by show b - 1 < n; omega⟩
      · exact ih.1 x hx
    · have := h3 x.1 (fromB_mem hx).1
      show b - 1 + 1 < x.1
      omega
/-! ### ascending lists are their members -/
theorem asc_nodup {bs : List Int} (h : Asc bs) : bs.Nodup := h.imp fun h => by omega
theorem perm_of_mem : ∀ {xs ys : List Int}, xs.Nodup → ys.Nodup → (∀ x, x ∈ xs ↔ x ∈ ys) → xs.Perm ys
  | [], ys, _, _, h => by
    cases ys with
    | nil => exact .nil
    | cons y ys => exact absurd ((h y).mpr List.mem_cons_self) List.not_mem_nil
  | x :: xs, ys, h1, h2, h => by
    have hx := (h x).mp List.mem_cons_self
    have p := List.perm_cons_erase hx
    refine .trans (.cons x (perm_of_mem (List.nodup_cons.mp h1).2 (h2.erase x) fun z => ?_)) p.symm
    rw [h2.mem_erase_iff]
    constructor
    · intro hz
      exact ⟨fun e => (List.nodup_cons.mp h1).1 (e ▸ hz), (h z).mp (List.mem_cons_of_mem _ hz)⟩
    · rintro ⟨e, hz⟩
      exact ((List.mem_cons.mp ((h z).mpr hz)).resolve_left e)
theorem asc_ext {xs ys : List Int} (h1 : Asc xs) (h2 : Asc ys) (h : ∀ x, x ∈ xs ↔ x ∈ ys) : xs = ys :=
  sort_unique (perm_of_mem (asc_nodup h1) (asc_nodup h2) h) (h1.imp fun h => by omega) (h2.imp fun h => by omega)
/-! ### the difference -/
def diffB (A B : List Int) : List Int := (sortI (A ++ B)).filter fun x => decide (((sortI (A ++ B)).count x : Int) = 1)
theorem count_asc {A : List Int} (h : A.Nodup) (x : Int) : A.count x = if x ∈ A then 1 else 0 := h.count
theorem diffB_mem {A B : List Int} (ha : A.Nodup) (hb : B.Nodup) (x : Int) : x ∈ diffB A B ↔ ¬ (x ∈ A ↔ x ∈ B) := by
  unfold diffB
  rw [List.mem_filter, (sortI_perm _).mem_iff, List.mem_append, (sortI_perm (A ++ B)).count_eq, List.count_append, count_asc ha, count_asc hb]
  by_cases h1 : x ∈ A <;> by_cases h2 : x ∈ B <;> simp [h1, h2]
theorem diffB_asc {A B : List Int} : Asc (diffB A B) := by
  have hp : (diffB A B).Pairwise (· ≤ ·) := (sortI_pw (A ++ B)).sublist List.filter_sublist
  have hn : (diffB A B).Nodup := by
    rw [List.nodup_iff_count]
    intro x
    by_cases hx : x ∈ diffB A B
    · have h1 := (List.mem_filter.mp hx).2
      have h2 : (sortI (A ++ B)).count x = 1 := by have := of_decide_eq_true h1; omega
      exact Nat.le_trans (List.Sublist.count_le x List.filter_sublist) (by omega)
    · rw [List.count_eq_zero_of_not_mem hx]; omega
  have := hp.and hn
  exact this.imp fun ⟨h1, h2⟩ => by
    have : _ ≠ _ := h2
    omega
theorem sd_len {A B D : List Int} (ha : A.Nodup) (hb : B.Nodup) (hd : D.Nodup) (h : ∀ x, x ∈ D ↔ ¬ (x ∈ A ↔ x ∈ B)) : D.length % 2 = (A.length + B.length) % 2 := by
  have p : D.Perm (A.filter (fun x => decide (x ∉ B)) ++ B.filter (fun x => decide (x ∉ A))) := by
    refine perm_of_mem hd ?_ fun x => ?_
    · rw [List.nodup_append]
      refine ⟨ha.filter _, hb.filter _, fun a h1 b h2 e => ?_⟩
      subst e
      have := (List.mem_filter.mp h1)
      have := (List.mem_filter.mp h2)
      simp_all
    · rw [h, List.mem_append, List.mem_filter, List.mem_filter]
      by_cases h1 : x ∈ A <;> by_cases h2 : x ∈ B <;> simp [h1, h2]
  have q : (A.filter (fun x => decide (x ∈ B))).Perm (B.filter (fun x => decide (x ∈ A))) := by
    refine perm_of_mem (ha.filter _) (hb.filter _) fun x => ?_
    rw [List.mem_filter, List.mem_filter]
    by_cases h1 : x ∈ A <;> by_cases h2 : x ∈ B <;> simp [h1, h2]
  have split : ∀ (X : List Int) (P : Int → Prop) [DecidablePred P], X.length = (X.filter (fun x => decide (P x))).length + (X.filter (fun x => decide (¬ P x))).length := by
    intro X P _
    induction X with
    | nil => rfl
    | cons x X ih =>
      by_cases hx : P x
      · simp [hx] at ih ⊢; omega
      · simp [hx] at ih ⊢; omega
  have l1 := split A (· ∈ B)
  have l2 := split B (· ∈ A)
  have l3 := p.length_eq
  have l4 := q.length_eq
  rw [List.length_append] at l3
  omega
def cnt (p : Int) (bs : List Int) : Nat := (bs.filter fun x => decide (x ≤ p)).length
theorem cnt_diff {A B : List Int} (ha : A.Nodup) (hb : B.Nodup) (p : Int) : cnt p (diffB A B) % 2 = (cnt p A + cnt p B) % 2 := by
  refine sd_len (ha.filter _) (hb.filter _) ((asc_nodup diffB_asc).filter _) fun x => ?_
  rw [List.mem_filter, List.mem_filter, List.mem_filter, diffB_mem ha hb]
  by_cases h1 : x ∈ A <;> by_cases h2 : x ∈ B <;> by_cases h3 : x ≤ p <;> simp [h1, h2, h3]
theorem diffB_even {A B : List Int} (ha : A.Nodup) (hb : B.Nodup) (h1 : A.length % 2 = 0) (h2 : B.length % 2 = 0) : (diffB A B).length % 2 = 0 := by
  have := sd_len ha hb (asc_nodup diffB_asc) (diffB_mem ha hb)
  omega
theorem diffB_le (A B : List Int) : (diffB A B).length ≤ A.length + B.length := by
  refine Nat.le_trans (List.length_filter_le _ _) ?_
  rw [(sortI_perm _).length_eq, List.length_append]
  exact Nat.le_refl _
theorem diffB_assoc {A B C : List Int} (ha : A.Nodup) (hb : B.Nodup) (hc : C.Nodup) : diffB (diffB A B) C = diffB A (diffB B C) := by
  have n1 : (diffB A B).Nodup := asc_nodup diffB_asc
  have n2 : (diffB B C).Nodup := asc_nodup diffB_asc
  refine asc_ext diffB_asc diffB_asc fun x => ?_
  rw [diffB_mem n1 hc, diffB_mem ha n2, diffB_mem ha hb, diffB_mem hb hc]
  by_cases h1 : x ∈ A <;> by_cases h2 : x ∈ B <;> by_cases h3 : x ∈ C <;> simp [h1, h2, h3]
/-- the difference of two selections -/
def diffS (k l : List (Int × Int)) : List (Int × Int) := fromB (diffB (bords k) (bords l))
section
variable {n : Int} {k l : List (Int × Int)}
theorem bords_even (l : List (Int × Int)) : (bords l).length % 2 = 0 := by rw [bords_len]; omega
theorem bords_diff (hk : Sel n k) (hl : Sel n l) : bords (diffS k l) = diffB (bords k) (bords l) :=
  bords_fromB _ (diffB_even (asc_nodup hk.asc) (asc_nodup hl.asc) (bords_even k) (bords_even l))
theorem sel_diff (hk : Sel n k) (hl : Sel n l) : Sel n (diffS k l) := sel_fromB diffB_asc fun x hx => by
  have := (diffB_mem (asc_nodup hk.asc) (asc_nodup hl.asc) x).mp hx
  by_cases h1 : x ∈ bords k
  · exact hk.bord x h1
  · by_cases h2 : x ∈ bords l
    · exact hl.bord x h2
    · simp [h1, h2] at this
theorem len_diff (k l : List (Int × Int)) : (diffS k l).length ≤ k.length + l.length := by
  unfold diffS
  rw [fromB_len]
  have := diffB_le (bords k) (bords l)
  rw [bords_len, bords_len] at this
  omega
end
/-! ### marked: an odd number of borders -/
def inR (l : List (Int × Int)) (p : Int) : Bool := l.any fun r => decide (r.1 ≤ p) && decide (p ≤ r.2)
theorem cnt_none {bs : List Int} {p : Int} (h : ∀ x ∈ bs, p < x) : cnt p bs = 0 := by
  unfold cnt
  rw [List.length_eq_zero_iff, List.filter_eq_nil_iff]
  intro x hx
  have := h x hx
  simp; omega
theorem cnt_cons (p x : Int) (bs : List Int) : cnt p (x :: bs) = (if x ≤ p then 1 else 0) + cnt p bs := by
  unfold cnt
  rw [List.filter_cons]
  by_cases h : x ≤ p
  · simp [h]; omega
  · simp [h]
theorem odd_marked {n p : Int} : ∀ {l : List (Int × Int)}, Sel n l → inR l p = decide (cnt p (bords l) % 2 = 1)
  | [], _ => rfl
  | r :: l, h => by
    have h1 := h.1 r List.mem_cons_self
    have far : ∀ x ∈ bords l, r.2 + 1 < x := fun x hx => by
      have := List.pairwise_cons.mp (List.pairwise_cons.mp h.asc).2
      exact this.1 x hx
    have e : inR (r :: l) p = ((decide (r.1 ≤ p) && decide (p ≤ r.2)) || inR l p) := rfl
    have e2 : cnt p (bords (r :: l)) = (if r.1 ≤ p then 1 else 0) + ((if r.2 + 1 ≤ p then 1 else 0) + cnt p (bords l)) := by
      show cnt p (r.1 :: (r.2 + 1) :: bords l) = _
      rw [cnt_cons, cnt_cons]
    rw [e, e2]
    have ih := odd_marked (p := p) h.tail
    by_cases c1 : r.2 + 1 ≤ p
    · have : ¬ p ≤ r.2 := by omega
      have c2 : r.1 ≤ p := by omega
      simp only [c1, c2, this, decide_false, Bool.and_false, Bool.false_or, if_true, ih]
      congr 1
      apply propext
      omega
    · have z : cnt p (bords l) = 0 := cnt_none fun x hx => by have := far x hx; omega
      rw [ih, z]
      have c3 : p ≤ r.2 := by omega
      by_cases c2 : r.1 ≤ p
      · simp [c1, c2, c3]
      · simp [c1, c2, c3]
/-! ### mirrored, moved -/
theorem bords_app : ∀ k l : List (Int × Int), bords (k ++ l) = bords k ++ bords l
  | [], _ => rfl
  | r :: k, l => by show r.1 :: (r.2 + 1) :: bords (k ++ l) = _; rw [bords_app k l]; rfl
def mir (n : Int) (l : List (Int × Int)) : List (Int × Int) := l.reverse.map fun x => (n - 1 - x.2, n - 1 - x.1)
theorem bords_mir (n : Int) : ∀ l : List (Int × Int), bords (mir n l) = (bords l).reverse.map fun b => n - b
  | [] => rfl
  | r :: l => by
    have e : mir n (r :: l) = mir n l ++ [(n - 1 - r.2, n - 1 - r.1)] := by unfold mir; simp
    rw [e, bords_app, bords_mir n l]
    show _ ++ [n - 1 - r.2, n - 1 - r.1 + 1] = ((r.1 :: (r.2 + 1) :: bords l).reverse.map fun b => n - b)
    simp
    omega
theorem sel_mir {n : Int} {l : List (Int × Int)} (h : Sel n l) : Sel n (mir n l) := by
  refine ⟨fun r hr => ?_, ?_⟩
  · obtain ⟨q, hq, e⟩ := List.mem_map.mp hr
    have := h.1 q (List.mem_reverse.mp hq)
    subst e
    exact ⟨by show 0 ≤ n - 1 - q.2; omega, by show n - 1 - q.2 ≤ n - 1 - q.1; omega, by show n - 1 - q.1 < n; omega⟩
  · unfold mir
    rw [List.pairwise_map, List.pairwise_reverse]
    exact h.2.imp fun {a b} hab => by show n - 1 - b.1 + 1 < n - 1 - a.2; omega
def mov (c : Int) (l : List (Int × Int)) : List (Int × Int) := l.map fun x => (x.1 + c, x.2 + c)
theorem bords_mov (c : Int) : ∀ l : List (Int × Int), bords (mov c l) = (bords l).map fun b => b + c
  | [] => rfl
  | r :: l => by
    show (r.1 + c) :: (r.2 + c + 1) :: bords (mov c l) = (r.1 + c) :: (r.2 + 1 + c) :: (bords l).map fun b => b + c
    rw [bords_mov c l, show r.2 + c + 1 = r.2 + 1 + c by omega]
theorem sel_mov {n c : Int} {l : List (Int × Int)} (h : Sel n l) (hc : 0 ≤ c) : Sel (n + c) (mov c l) := by
  refine ⟨fun r hr => ?_, ?_⟩
  · obtain ⟨q, hq, e⟩ := List.mem_map.mp hr
    have := h.1 q hq
    subst e
    exact ⟨by show 0 ≤ q.1 + c; omega, by show q.1 + c ≤ q.2 + c; omega, by show q.2 + c < n + c; omega⟩
  · unfold mov
    rw [List.pairwise_map]
    exact h.2.imp fun {a b} hab => by show a.2 + c + 1 < b.1 + c; omega
/-! ### blocks -/
/-- one border more -/
def blk1 (m : List (Int × Int)) (b : Int) : List (Int × Int) :=
  match m.getLast? with
  | some r => if r.2 + 1 = b then m.dropLast ++ [(r.1, b)] else m ++ [(b, b)]
  | none => m ++ [(b, b)]
def blks (bs : List Int) : List (Int × Int) := bs.foldl blk1 []
def cover (m : List (Int × Int)) : List Int := m.flatMap fun r => rangeL2 r.1 (r.2 + 1)
theorem rangeL2_snoc {a b : Int} (h : a ≤ b) : rangeL2 a (b + 1) = rangeL2 a b ++ [b] := by
  unfold rangeL2
  rw [show (b + 1 - a).toNat = (b - a).toNat + 1 by omega, List.range_succ, List.map_append]
  congr 1
  simp
  omega
theorem rangeL2_one (b : Int) : rangeL2 b (b + 1) = [b] := by
  rw [rangeL2_snoc (Int.le_refl _)]
  unfold rangeL2
  rw [show (b - b).toNat = 0 by omega]
  rfl
theorem blk1_snoc {m : List (Int × Int)} {r : Int × Int} {b : Int} : blk1 (m ++ [r]) b = if r.2 + 1 = b then m ++ [(r.1, b)] else m ++ [r] ++ [(b, b)] := by
  unfold blk1
  simp
theorem snoc_cases {α : Type} (l : List α) : l = [] ∨ ∃ l0 r, l = l0 ++ [r] := by
  cases h : l with
  | nil => exact .inl rfl
  | cons a t => exact .inr ⟨_, _, (List.dropLast_concat_getLast (List.cons_ne_nil a t)).symm⟩
theorem cover_blk1 {m : List (Int × Int)} {b : Int} (h : ∀ r ∈ m, r.1 ≤ r.2) : cover (blk1 m b) = cover m ++ [b] ∧ ∀ r ∈ blk1 m b, r.1 ≤ r.2 := by
  rcases snoc_cases m with e | ⟨m0, r, e⟩
  · subst e
    refine ⟨?_, ?_⟩
    · show rangeL2 b (b + 1) ++ [] = _
      rw [rangeL2_one]; rfl
    · intro r hr
      have : r = (b, b) := by simpa [blk1] using hr
      rw [this]; exact Int.le_refl _
  · subst e
    rw [blk1_snoc]
    have hr := h r (by simp)
    by_cases c : r.2 + 1 = b
    · rw [if_pos c]
      refine ⟨?_, ?_⟩
      · unfold cover
        rw [List.flatMap_append, List.flatMap_append, List.append_assoc]
        congr 1
        simp only [List.flatMap_cons, List.flatMap_nil, List.append_nil]
        rw [c, rangeL2_snoc (by omega)]
      · intro x hx
        rcases List.mem_append.mp hx with hx | hx
        · exact h x (List.mem_append_left _ hx)
        · rw [List.mem_singleton.mp hx]; show r.1 ≤ b; omega
    · rw [if_neg c]
      refine ⟨?_, ?_⟩
      · unfold cover
        rw [List.flatMap_append (xs := m0 ++ [r])]
        congr 1
        simp only [List.flatMap_cons, List.flatMap_nil, List.append_nil]
        exact rangeL2_one b
      · intro x hx
        rcases List.mem_append.mp hx with hx | hx
        · exact h x hx
        · rw [List.mem_singleton.mp hx]; exact Int.le_refl _
theorem cover_foldl : ∀ (bs : List Int) (m : List (Int × Int)), (∀ r ∈ m, r.1 ≤ r.2) → cover (bs.foldl blk1 m) = cover m ++ bs ∧ (∀ r ∈ bs.foldl blk1 m, r.1 ≤ r.2)
  | [], m, h => ⟨by simp, h⟩
  | b :: bs, m, h => by
    obtain ⟨h1, h2⟩ := cover_blk1 (b := b) h
    obtain ⟨h3, h4⟩ := cover_foldl bs (blk1 m b) h2
    exact ⟨by rw [List.foldl_cons, h3, h1]; simp, h4⟩
theorem cover_blks (bs : List Int) : cover (blks bs) = bs := by
  have := (cover_foldl bs [] (fun _ h => (nomatch h))).1
  simpa [blks, cover] using this
theorem blks_le (bs : List Int) : ∀ r ∈ blks bs, r.1 ≤ r.2 := (cover_foldl bs [] (fun _ h => (nomatch h))).2
theorem blk1_mov (c : Int) (m : List (Int × Int)) (b : Int) : blk1 (mov c m) (b + c) = mov c (blk1 m b) := by
  rcases snoc_cases m with e | ⟨m0, r, e⟩
  · subst e; rfl
  · subst e
    have e1 : mov c (m0 ++ [r]) = mov c m0 ++ [(r.1 + c, r.2 + c)] := by unfold mov; simp
    rw [e1, blk1_snoc, blk1_snoc]
    by_cases h : r.2 + 1 = b
    · have : r.2 + c + 1 = b + c := by omega
      rw [if_pos h, if_pos this]
      unfold mov; simp
    · have : ¬ r.2 + c + 1 = b + c := by omega
      rw [if_neg h, if_neg this]
      unfold mov; simp
theorem foldl_mov (c : Int) : ∀ (bs : List Int) (m : List (Int × Int)), (bs.map fun b => b + c).foldl blk1 (mov c m) = mov c (bs.foldl blk1 m)
  | [], m => rfl
  | b :: bs, m => by
    show (bs.map fun b => b + c).foldl blk1 (blk1 (mov c m) (b + c)) = _
    rw [blk1_mov, foldl_mov c bs]
    rfl
theorem blks_mov (c : Int) (bs : List Int) : blks (bs.map fun b => b + c) = mov c (blks bs) := foldl_mov c bs []
theorem blk1_len (m : List (Int × Int)) (b : Int) : (blk1 m b).length ≤ m.length + 1 := by
  rcases snoc_cases m with e | ⟨m0, r, e⟩
  · subst e; exact Nat.le_refl _
  · subst e
    rw [blk1_snoc]
    split <;> simp
theorem foldl_len : ∀ (bs : List Int) (m : List (Int × Int)), (bs.foldl blk1 m).length ≤ m.length + bs.length
  | [], m => Nat.le_refl _
  | b :: bs, m => by
    have h1 := foldl_len bs (blk1 m b)
    have h2 := blk1_len m b
    simp only [List.foldl_cons, List.length_cons]
    omega
theorem blks_len (bs : List Int) : (blks bs).length ≤ bs.length := by
  have := foldl_len bs []
  simpa [blks] using this
theorem blk1_mem {m : List (Int × Int)} {b : Int} {P : Int → Prop} (hm : ∀ r ∈ m, P r.1 ∧ P r.2) (hb : P b) : ∀ r ∈ blk1 m b, P r.1 ∧ P r.2 := by
  rcases snoc_cases m with e | ⟨m0, r, e⟩
  · subst e
    intro x hx
    have : x = (b, b) := by simpa [blk1] using hx
    rw [this]; exact ⟨hb, hb⟩
  · subst e
    rw [blk1_snoc]
    intro x hx
    split at hx
    · rcases List.mem_append.mp hx with hx | hx
      · exact hm x (List.mem_append_left _ hx)
      · rw [List.mem_singleton.mp hx]; exact ⟨(hm r (by simp)).1, hb⟩
    · rcases List.mem_append.mp hx with hx | hx
      · exact hm x hx
      · rw [List.mem_singleton.mp hx]; exact ⟨hb, hb⟩
theorem foldl_mem {P : Int → Prop} : ∀ (bs : List Int) (m : List (Int × Int)), (∀ r ∈ m, P r.1 ∧ P r.2) → (∀ b ∈ bs, P b) → ∀ r ∈ bs.foldl blk1 m, P r.1 ∧ P r.2
  | [], _, hm, _ => hm
  | b :: bs, m, hm, hb => foldl_mem bs (blk1 m b) (blk1_mem hm (hb b List.mem_cons_self)) fun x hx => hb x (List.mem_cons_of_mem _ hx)
theorem blks_mem {bs : List Int} : ∀ r ∈ blks bs, r.1 ∈ bs ∧ r.2 ∈ bs := foldl_mem (P := (· ∈ bs)) bs [] (fun _ h => (nomatch h)) fun _ h => h
end Sx

/-! Runs gathered from the left; selections with the same marks are the same. -/
namespace Sx
open Dx
theorem cnt_step {x : Int} : ∀ {bs : List Int}, bs.Nodup → cnt x bs = cnt (x - 1) bs + if x ∈ bs then 1 else 0
  | [], _ => rfl
  | b :: bs, h => by
    obtain ⟨h1, h2⟩ := List.nodup_cons.mp h
    rw [cnt_cons, cnt_cons, cnt_step h2]
    by_cases e : b = x
    · subst e
      have : ¬ b ≤ b - 1 := by omega
      simp [h1, this]
      omega
    · by_cases m : x ∈ bs
      · have : x ∈ b :: bs := List.mem_cons_of_mem _ m
        simp only [m, this, if_true]
        by_cases l : b ≤ x
        · have : b ≤ x - 1 := by omega
          simp [l, this]; omega
        · have : ¬ b ≤ x - 1 := by omega
          simp [l, this]
      · have : x ∉ b :: bs := fun z => by
          rcases List.mem_cons.mp z with z | z
          · exact e z.symm
          · exact m z
        simp only [m, this, if_false]
        by_cases l : b ≤ x
        · have : b ≤ x - 1 := by omega
          simp [l, this]
        · have : ¬ b ≤ x - 1 := by omega
          simp [l, this]
theorem cnt_same {bs : List Int} {a p : Int} (h : ∀ x ∈ bs, ¬ (a < x ∧ x ≤ p)) (hp : a ≤ p) : cnt p bs = cnt a bs := by
  unfold cnt
  congr 1
  apply List.filter_congr
  intro x hx
  have := h x hx
  apply decide_eq_decide.mpr
  omega
section
variable {n c : Int} {k l : List (Int × Int)}
theorem bord_iff (h : Sel n l) (x : Int) : x ∈ bords l ↔ inR l (x - 1) ≠ inR l x := by
  rw [odd_marked h, odd_marked h]
  have := cnt_step (x := x) (asc_nodup h.asc)
  by_cases m : x ∈ bords l
  · simp only [m, if_true] at this
    simp only [m, true_iff]
    intro e
    have e2 : (cnt (x - 1) (bords l) % 2 = 1) = (cnt x (bords l) % 2 = 1) := by
      apply propext
      exact decide_eq_decide.mp e
    rw [this] at e2
    have e3 := (Eq.to_iff e2)
    omega
  · simp only [m, if_false] at this
    simp only [m, false_iff, Decidable.not_not]
    rw [this]; rfl
theorem inR_out (h : Sel n l) {p : Int} (hp : p < 0 ∨ n ≤ p) : inR l p = false := by
  unfold inR
  rw [List.any_eq_false]
  intro r hr
  have := h.1 r hr
  simp only [Bool.and_eq_true, decide_eq_true_eq]
  omega
theorem sel_uniq (hk : Sel n k) (hl : Sel n l) (h : ∀ p, 0 ≤ p → p < n → inR k p = inR l p) : k = l := by
  have all : ∀ p, inR k p = inR l p := fun p => by
    by_cases z : p < 0 ∨ n ≤ p
    · rw [inR_out hk z, inR_out hl z]
    · exact h p (by omega) (by omega)
  have e : bords k = bords l := asc_ext hk.asc hl.asc fun x => by
    rw [bord_iff hk, bord_iff hl, all, all]
  rw [← fromB_bords k, e, fromB_bords]
theorem inR_diff (hk : Sel n k) (hl : Sel n l) (p : Int) : inR (diffS k l) p = (inR k p != inR l p) := by
  rw [odd_marked (sel_diff hk hl), odd_marked hk, odd_marked hl, bords_diff hk hl, cnt_diff (asc_nodup hk.asc) (asc_nodup hl.asc)]
  by_cases a : cnt p (bords k) % 2 = 1 <;> by_cases b : cnt p (bords l) % 2 = 1
  · have : ¬ (cnt p (bords k) + cnt p (bords l)) % 2 = 1 := by omega
    simp [a, b, this]
  · have : (cnt p (bords k) + cnt p (bords l)) % 2 = 1 := by omega
    simp [a, b, this]
  · have : (cnt p (bords k) + cnt p (bords l)) % 2 = 1 := by omega
    simp [a, b, this]
  · have : ¬ (cnt p (bords k) + cnt p (bords l)) % 2 = 1 := by omega
    simp [a, b, this]
theorem inR_const (h : Sel n l) {a p : Int} (hb : ∀ x ∈ bords l, ¬ (a < x ∧ x ≤ p)) (hp : a ≤ p) : inR l p = inR l a := by
  rw [odd_marked h, odd_marked h, cnt_same hb hp]
theorem inR_true {p : Int} : inR l p = true ↔ ∃ r ∈ l, r.1 ≤ p ∧ p ≤ r.2 := by
  unfold inR
  rw [List.any_eq_true]
  simp only [Bool.and_eq_true, decide_eq_true_eq]
theorem inR_app (p : Int) : inR (k ++ l) p = (inR k p || inR l p) := by unfold inR; rw [List.any_append]
theorem inR_one (r : Int × Int) (p : Int) : inR [r] p = (decide (r.1 ≤ p) && decide (p ≤ r.2)) := by simp [inR]
end
/-- what is gathered of the marks M ahead of c -/
def Upto (M : Int → Bool) (c : Int) (f : List (Int × Int)) : Prop := Sel c f ∧ ∀ p, 0 ≤ p → p < c → inR f p = M p
section
variable {M : Int → Bool} {a b : Int} {f : List (Int × Int)} {r : Int × Int}
theorem Sel.wide {n m : Int} {l : List (Int × Int)} (h : Sel n l) (hm : n ≤ m) : Sel m l := ⟨fun r hr => by have := h.1 r hr; omega, h.2⟩
theorem upto_zero : Upto M 0 [] := ⟨⟨fun _ h => (nomatch h), .nil⟩, fun p h0 h1 => by omega⟩
theorem upto_skip (h : Upto M a f) (hab : a ≤ b) (hM : ∀ p, a ≤ p → p < b → M p = false) : Upto M b f :=
  ⟨h.1.wide hab, fun p h0 h1 => by
    by_cases z : p < a
    · exact h.2 p h0 z
    · rw [hM p (by omega) h1]
      exact inR_out h.1 (.inr (by omega))⟩
theorem sel_app {n x y : Int} (h : Sel n f) (h0 : 0 ≤ x) (h1 : x ≤ y) (h2 : y < n) (hf : ∀ r ∈ f, r.2 + 1 < x) : Sel n (f ++ [(x, y)]) := by
  refine ⟨fun r hr => ?_, List.pairwise_append.mpr ⟨h.2, List.pairwise_singleton .., fun x hx y hy => ?_⟩⟩
  · rcases List.mem_append.mp hr with z | z
    · exact h.1 r z
    · rw [List.mem_singleton.mp z]; exact ⟨h0, h1, h2⟩
  · rw [List.mem_singleton.mp hy]; exact hf x hx
theorem upto_app (h : Upto M a f) (h0 : 0 ≤ a) (hab : a < b) (hM : ∀ p, a ≤ p → p < b → M p = true) (hf : ∀ r ∈ f, r.2 + 1 ≠ a) : Upto M b (f ++ [(a, b - 1)]) := by
  refine ⟨sel_app (h.1.wide (by omega)) h0 (by omega) (by omega) fun r hr => ?_, fun p p0 p1 => ?_⟩
  · have := h.1.1 r hr
    have := hf r hr
    omega
  · rw [inR_app, inR_one]
    by_cases z : p < a
    · have e : ¬ a ≤ p := by omega
      rw [h.2 p p0 z, decide_eq_false e]
      simp
    · have e : a ≤ p := by omega
      have e2 : p ≤ b - 1 := by omega
      rw [hM p e p1, decide_eq_true e, decide_eq_true (show p ≤ (a, b - 1).2 from e2)]
      simp
theorem upto_ext (h : Upto M a (f ++ [r])) (hr : r.2 + 1 = a) (hab : a < b) (hM : ∀ p, a ≤ p → p < b → M p = true) : Upto M b (f ++ [(r.1, b - 1)]) := by
  have hv := h.1.1 r (by simp)
  obtain ⟨q1, q2, q3⟩ := List.pairwise_append.mp h.1.2
  have sf : Sel b f := ⟨fun x hx => by have := h.1.1 x (List.mem_append_left _ hx); omega, q1⟩
  refine ⟨sel_app sf hv.1 (by omega) (by omega) fun x hx => q3 x hx r (by simp), fun p p0 p1 => ?_⟩
  rw [inR_app, inR_one]
  by_cases z : p < a
  · have e := h.2 p p0 z
    rw [inR_app, inR_one] at e
    rw [← e]
    congr 2
    apply decide_eq_decide.mpr
    show p ≤ b - 1 ↔ p ≤ r.2
    omega
  · have e : r.1 ≤ p := by omega
    have e2 : p ≤ b - 1 := by omega
    rw [hM p (by omega) p1, decide_eq_true (show (r.1, b - 1).1 ≤ p from e), decide_eq_true (show p ≤ (r.1, b - 1).2 from e2)]
    simp
theorem last_gap (h : Sel a (f ++ [r])) (hr : r.2 + 1 ≠ a) : ∀ x ∈ f ++ [r], x.2 + 1 ≠ a := fun x hx => by
  obtain ⟨q1, q2, q3⟩ := List.pairwise_append.mp h.2
  rcases List.mem_append.mp hx with z | z
  · have := q3 x z r (by simp)
    have := h.1 r (by simp)
    omega
  · rw [List.mem_singleton.mp z]; exact hr
/-- marked ahead: the last run ends there -/
theorem last_of (h : Upto M a f) (h1 : 0 < a) (hm : M (a - 1) = true) : ∃ f0 r, f = f0 ++ [r] ∧ r.2 + 1 = a := by
  rw [← h.2 (a - 1) (by omega) (by omega), inR_true] at hm
  obtain ⟨r, hr, q1, q2⟩ := hm
  have hv := h.1.1 r hr
  rcases snoc_cases f with e | ⟨f0, l, e⟩
  · rw [e] at hr; cases hr
  · refine ⟨f0, l, e, ?_⟩
    subst e
    by_cases z : l.2 + 1 = a
    · exact z
    · exact absurd (show r.2 + 1 = a by omega) (last_gap h.1 z r hr)
theorem no_last (h : Upto M a f) (hm : a = 0 ∨ M (a - 1) = false) : ∀ r ∈ f, r.2 + 1 ≠ a := fun r hr e => by
  have hv := h.1.1 r hr
  rcases hm with z | z
  · omega
  · rw [← h.2 (a - 1) (by omega) (by omega)] at z
    have := inR_true.mpr ⟨r, hr, show r.1 ≤ a - 1 by omega, show a - 1 ≤ r.2 by omega⟩
    rw [this] at z
    cases z
end
end Sx

/-! What clicks do to selections, told by marks. -/
namespace Sx
open Dx
/-! ### sorted lists without repetition -/
theorem sortI_asc {xs : List Int} (h : xs.Nodup) : Asc (sortI xs) := by
  have h1 := sortI_pw xs
  have h2 : (sortI xs).Nodup := (sortI_perm xs).nodup_iff.mpr h
  exact List.Pairwise.imp₂ (fun a b h1 h2 => by omega) h1 h2
theorem sortI_mem {xs : List Int} {x : Int} : x ∈ sortI xs ↔ x ∈ xs := (sortI_perm xs).mem_iff
/-! ### a selection for all marks -/
theorem sel_of (M : Int → Bool) : ∀ n : Nat, ∃ f, Upto M n f
  | 0 => ⟨[], upto_zero⟩
  | n + 1 => by
    obtain ⟨f, h⟩ := sel_of M n
    have one : ∀ p : Int, (n : Int) ≤ p → p < ((n + 1 : Nat) : Int) → p = n := fun p a b => by omega
    by_cases m : M n = true
    · by_cases l : (n : Int) = 0 ∨ M ((n : Int) - 1) = false
      · exact ⟨_, upto_app (b := ((n + 1 : Nat) : Int)) h (by omega) (by omega) (fun p a b => by rw [one p a b]; exact m) (no_last h l)⟩
      · have l1 : (n : Int) ≠ 0 := fun z => l (.inl z)
        have l2 : M ((n : Int) - 1) = true := by
          cases e : M ((n : Int) - 1) with
          | true => rfl
          | false => exact absurd (.inr e) l
        obtain ⟨f0, r, e, er⟩ := last_of h (by omega) l2
        subst e
        exact ⟨_, upto_ext (b := ((n + 1 : Nat) : Int)) h er (by omega) fun p a b => by rw [one p a b]; exact m⟩
    · exact ⟨f, upto_skip h (by omega) fun p a b => by rw [one p a b]; simpa using m⟩
theorem sel_marks {n : Int} (hn : 0 ≤ n) (M : Int → Bool) (hM : ∀ p, p < 0 ∨ n ≤ p → M p = false) : ∃ T, Sel n T ∧ ∀ p, inR T p = M p := by
  obtain ⟨T, h1, h2⟩ := sel_of M n.toNat
  rw [show ((n.toNat : Nat) : Int) = n by omega] at h1 h2
  refine ⟨T, h1, fun p => ?_⟩
  by_cases z : p < 0 ∨ n ≤ p
  · rw [inR_out h1 z, hM p z]
  · exact h2 p (by omega) (by omega)
/-! ### a click -/
def clickS (l : List (Int × Int)) (i : Int) : List (Int × Int) := fromB (sortI ((bords l).filter (fun x => !decide (x ∈ [i, i + 1])) ++ [i, i + 1].filter fun x => !decide (x ∈ bords l)))
section
variable {n i a b : Int} {l : List (Int × Int)} {m : Bool}
theorem nodup_app {xs ys : List Int} (h1 : xs.Nodup) (h2 : ys.Nodup) (h : ∀ x ∈ xs, x ∉ ys) : (xs ++ ys).Nodup :=
  List.nodup_append.mpr ⟨h1, h2, fun x hx y hy e => h x hx (e ▸ hy)⟩
theorem click_ok (h : Sel n l) (h0 : 0 ≤ i) (h1 : i < n) : Sel n (clickS l i) ∧ ∀ p, inR (clickS l i) p = (inR l p != decide (p = i)) := by
  have hi : Sel n [(i, i)] := ⟨fun r hr => by rw [List.mem_singleton.mp hr]; exact ⟨h0, Int.le_refl _, h1⟩, List.pairwise_singleton _ _⟩
  have e : clickS l i = diffS l [(i, i)] := by
    unfold clickS diffS
    congr 1
    have nd : ([i, i + 1] : List Int).Nodup := by
      simp
      omega
    refine asc_ext (sortI_asc (nodup_app ((asc_nodup h.asc).filter _) (nd.filter _) fun x hx hy => ?_)) diffB_asc fun x => ?_
    · rw [List.mem_filter] at hx hy
      have := hx.2
      have hy1 := hy.1
      simp only [Bool.not_eq_true', decide_eq_false_iff_not] at this
      exact this hy1
    · rw [sortI_mem, diffB_mem (asc_nodup h.asc) (asc_nodup hi.asc), List.mem_append, List.mem_filter, List.mem_filter]
      have eb : bords [(i, i)] = [i, i + 1] := rfl
      rw [eb]
      by_cases q1 : x ∈ bords l <;> by_cases q2 : x ∈ [i, i + 1] <;> simp [q1, q2]
  rw [e]
  refine ⟨sel_diff h hi, fun p => ?_⟩
  rw [inR_diff h hi, inR_one]
  congr 1
  rw [← Bool.decide_and]
  apply decide_eq_decide.mpr
  show i ≤ p ∧ p ≤ i ↔ p = i
  omega
/-! ### a range click -/
def rangeB (l : List (Int × Int)) (a b : Int) (m : Bool) : List Int :=
  let q := (bords l).filter fun x => !(decide (a ≤ x) && decide (x ≤ b + 1))
  let q := if (inR l (a - 1) != m) = true then q ++ [a] else q
  if (inR l (b + 1) != m) = true then q ++ [b + 1] else q
def rangeS (l : List (Int × Int)) (a b : Int) (m : Bool) : List (Int × Int) := fromB (sortI (rangeB l a b m))
theorem rangeB_mem {x : Int} : x ∈ rangeB l a b m ↔ (x ∈ bords l ∧ ¬ (a ≤ x ∧ x ≤ b + 1)) ∨ (x = a ∧ inR l (a - 1) ≠ m) ∨ (x = b + 1 ∧ inR l (b + 1) ≠ m) := by
  unfold rangeB
  have hne : ∀ c d : Bool, (c != d) = true ↔ c ≠ d := fun c d => by cases c <;> cases d <;> simp
  have hf : x ∈ (bords l).filter (fun x => !(decide (a ≤ x) && decide (x ≤ b + 1))) ↔ (x ∈ bords l ∧ ¬ (a ≤ x ∧ x ≤ b + 1)) := by
    rw [List.mem_filter, Bool.not_eq_true', ← Bool.decide_and, decide_eq_false_iff_not]
  by_cases c1 : inR l (a - 1) ≠ m <;> by_cases c2 : inR l (b + 1) ≠ m
  · rw [if_pos ((hne _ _).mpr c2), if_pos ((hne _ _).mpr c1), List.mem_append, List.mem_append, hf, List.mem_singleton, List.mem_singleton]
    simp only [c1, c2, ne_eq, not_false_eq_true, and_true, or_assoc]
  · rw [if_neg (fun z => c2 ((hne _ _).mp z)), if_pos ((hne _ _).mpr c1), List.mem_append, hf, List.mem_singleton]
    rw [eq_true c1, eq_false c2]
    simp only [and_true, and_false, or_false]
  · rw [if_pos ((hne _ _).mpr c2), if_neg (fun z => c1 ((hne _ _).mp z)), List.mem_append, hf, List.mem_singleton]
    rw [eq_false c1, eq_true c2]
    simp only [and_true, and_false, false_or]
  · rw [if_neg (fun z => c2 ((hne _ _).mp z)), if_neg (fun z => c1 ((hne _ _).mp z)), hf]
    simp only [c1, c2, and_false, or_false]
theorem rangeB_nodup (h : Sel n l) (hab : a ≤ b) : (rangeB l a b m).Nodup := by
  unfold rangeB
  have nf := (asc_nodup h.asc).filter (fun x => !(decide (a ≤ x) && decide (x ≤ b + 1)))
  have out : ∀ x ∈ (bords l).filter (fun x => !(decide (a ≤ x) && decide (x ≤ b + 1))), ¬ (a ≤ x ∧ x ≤ b + 1) := fun x hx => by
    rw [List.mem_filter, Bool.not_eq_true', ← Bool.decide_and, decide_eq_false_iff_not] at hx
    exact hx.2
  have n1 : (if (inR l (a - 1) != m) = true then (bords l).filter (fun x => !(decide (a ≤ x) && decide (x ≤ b + 1))) ++ [a] else (bords l).filter (fun x => !(decide (a ≤ x) && decide (x ≤ b + 1)))).Nodup := by
    split
    · exact nodup_app nf (by simp) fun x hx hy => by have := out x hx; rw [List.mem_singleton.mp hy] at this; omega
    · exact nf
  show (if (inR l (b + 1) != m) = true then _ ++ [b + 1] else _ : List Int).Nodup
  split
  · refine nodup_app n1 (by simp) fun x hx hy => ?_
    rw [List.mem_singleton.mp hy] at hx
    split at hx
    · rcases List.mem_append.mp hx with z | z
      · have := out _ z; omega
      · have := List.mem_singleton.mp z; omega
    · have := out _ hx; omega
  · exact n1
theorem range_ok (h : Sel n l) (h0 : 0 ≤ a) (hab : a ≤ b) (h1 : b < n) : Sel n (rangeS l a b m) ∧ ∀ p, inR (rangeS l a b m) p = if a ≤ p ∧ p ≤ b then m else inR l p := by
  obtain ⟨T, t1, t2⟩ := sel_marks (n := n) (by omega) (fun p => if a ≤ p ∧ p ≤ b then m else inR l p) fun p hp => by
    have : ¬ (a ≤ p ∧ p ≤ b) := by omega
    show (if a ≤ p ∧ p ≤ b then m else inR l p) = false
    rw [if_neg this, inR_out h hp]
  have e : sortI (rangeB l a b m) = bords T := asc_ext (sortI_asc (rangeB_nodup h hab)) t1.asc fun x => by
    rw [sortI_mem, rangeB_mem, bord_iff t1, t2, t2, bord_iff h]
    by_cases c1 : x < a
    · have q1 : ¬ (a ≤ x - 1 ∧ x - 1 ≤ b) := by omega
      have q2 : ¬ (a ≤ x ∧ x ≤ b) := by omega
      have q3 : ¬ (a ≤ x ∧ x ≤ b + 1) := by omega
      have q4 : x ≠ a := by omega
      have q5 : x ≠ b + 1 := by omega
      simp only [q1, q2, q3, q4, q5, if_false, not_false_eq_true, and_true, false_and, or_false]
    · by_cases c2 : x = a
      · subst c2
        have q1 : ¬ (x ≤ x - 1 ∧ x - 1 ≤ b) := by omega
        have q2 : (x ≤ x ∧ x ≤ b) := by omega
        have q3 : (x ≤ x ∧ x ≤ b + 1) := by omega
        have q5 : x ≠ b + 1 := by omega
        simp only [q1, q2, q3, q5, if_false, if_true, not_true_eq_false, and_false, false_and, or_false, false_or, true_and]
      · by_cases c3 : x ≤ b
        · have q1 : (a ≤ x - 1 ∧ x - 1 ≤ b) := by omega
          have q2 : (a ≤ x ∧ x ≤ b) := by omega
          have q3 : (a ≤ x ∧ x ≤ b + 1) := by omega
          have q5 : x ≠ b + 1 := by omega
          simp only [q1, q2, q3, q5, c2, if_true, not_true_eq_false, and_false, false_and, or_false, ne_eq]
          simp
        · by_cases c4 : x = b + 1
          · subst c4
            have q1 : (a ≤ b + 1 - 1 ∧ b + 1 - 1 ≤ b) := by omega
            have q2 : ¬ (a ≤ b + 1 ∧ b + 1 ≤ b) := by omega
            have q3 : (a ≤ b + 1 ∧ b + 1 ≤ b + 1) := by omega
            have q5 : b + 1 ≠ a := by omega
            rw [if_pos q1, if_neg q2]
            simp only [q3, q5, not_true_eq_false, and_false, false_and, or_false, false_or, true_and]
            exact ⟨fun z => z.symm, fun z => z.symm⟩
          · have q1 : ¬ (a ≤ x - 1 ∧ x - 1 ≤ b) := by omega
            have q2 : ¬ (a ≤ x ∧ x ≤ b) := by omega
            have q3 : ¬ (a ≤ x ∧ x ≤ b + 1) := by omega
            simp only [q1, q2, q3, c2, c4, if_false, not_false_eq_true, and_true, false_and, or_false]
  have e2 : rangeS l a b m = T := by unfold rangeS; rw [e, fromB_bords]
  rw [e2]
  exact ⟨t1, t2⟩
end
end Sx

/-! States and clicks: mirrored, moved, with runs kept outside. -/
namespace Sx
open Dx PySem
abbrev StT : Type := Int × List (Int × Int) × Option Int
abbrev CkT : Type := Str × Int
def nextS (s : StT) (c : CkT) : StT :=
  if c.1 = ("click" : Str) then (s.1, clickS s.2.1 c.2, some c.2)
  else (s.1, rangeS s.2.1 (min (s.2.2.getD 0) c.2) (max (s.2.2.getD 0) c.2) (inR s.2.1 (s.2.2.getD 0)), s.2.2)
def runS : StT → List CkT → List StT
  | s, [] => [s]
  | s, c :: cs => s :: runS (nextS s c) cs
/-- a state -/
structure Vs (n : Int) (s : StT) : Prop where
  num : s.1 = n
  pos : 1 ≤ n
  sel : Sel n s.2.1
  anc : ∀ a, s.2.2 = some a → 0 ≤ a ∧ a < n
/-- a click that can be done -/
def Can (n : Int) (s : StT) (c : CkT) : Prop := 0 ≤ c.2 ∧ c.2 < n ∧ (c.1 = ("click" : Str) ∨ (c.1 = ("range" : Str) ∧ s.2.2.isSome = true))
def Cans (n : Int) : StT → List CkT → Prop
  | _, [] => True
  | s, c :: cs => Can n s c ∧ Cans n (nextS s c) cs
section
variable {n : Int} {s : StT} {c : CkT}
theorem next_valid (h : Vs n s) (hc : Can n s c) : Vs n (nextS s c) := by
  obtain ⟨c0, c1, ck⟩ := hc
  unfold nextS
  split
  · exact ⟨h.num, h.pos, (click_ok h.sel c0 c1).1, fun a e => by cases e; exact ⟨c0, c1⟩⟩
  · rename_i nk
    obtain ⟨a, ea⟩ : ∃ a, s.2.2 = some a := by
      rcases ck with e | e
      · exact absurd e nk
      · exact Option.isSome_iff_exists.mp e.2
    have ha := h.anc a ea
    rw [ea]
    exact ⟨h.num, h.pos, (range_ok h.sel (by show 0 ≤ min a c.2; omega) (by show min a c.2 ≤ max a c.2; omega) (by show max a c.2 < n; omega)).1, fun a' e => by cases e; exact ha⟩
theorem next_some (hc : Can n s c) : (nextS s c).2.2.isSome = true := by
  unfold nextS
  split
  · rfl
  · rename_i nk
    rcases hc.2.2 with e | e
    · exact absurd e nk
    · exact e.2
theorem run_length : ∀ (s : StT) (cs : List CkT), (runS s cs).length = cs.length + 1
  | _, [] => rfl
  | s, c :: cs => by show (runS (nextS s c) cs).length + 1 = _; rw [run_length]; rfl
theorem run_valid : ∀ {cs : List CkT} {s : StT}, Vs n s → Cans n s cs → ∀ t ∈ runS s cs, Vs n t
  | [], s, h, _, t, ht => by rw [List.mem_singleton.mp ht]; exact h
  | c :: cs, s, h, hc, t, ht => by
    rcases List.mem_cons.mp ht with e | ht
    · rw [e]; exact h
    · exact run_valid (next_valid h hc.1) hc.2 t ht
theorem cans_of : ∀ {cs : List CkT} {s : StT}, (∀ c ∈ cs, 0 ≤ c.2 ∧ c.2 < n ∧ (c.1 = ("click" : Str) ∨ c.1 = ("range" : Str))) → s.2.2.isSome = true → Cans n s cs
  | [], _, _, _ => trivial
  | c :: cs, s, h, hs => by
    obtain ⟨a, b, k⟩ := h c List.mem_cons_self
    have hc : Can n s c := ⟨a, b, k.imp id fun e => ⟨e, hs⟩⟩
    exact ⟨hc, cans_of (fun x hx => h x (List.mem_cons_of_mem _ hx)) (next_some hc)⟩
/-- what goes with each step goes with all -/
theorem run_comm {φ : StT → StT} {ψ : CkT → CkT} (hφ : ∀ s c, Vs n s → Can n s c → nextS (φ s) (ψ c) = φ (nextS s c)) : ∀ {cs : List CkT} {s : StT}, Vs n s → Cans n s cs → runS (φ s) (cs.map ψ) = (runS s cs).map φ
  | [], _, _, _ => rfl
  | c :: cs, s, h, hc => by
    show φ s :: runS (nextS (φ s) (ψ c)) (cs.map ψ) = φ s :: (runS (nextS s c) cs).map φ
    rw [hφ s c h hc.1, run_comm hφ (next_valid h hc.1) hc.2]
end
/-! ### marks of what is moved, mirrored -/
theorem inR_mov (c p : Int) (l : List (Int × Int)) : inR (mov c l) p = inR l (p - c) := by
  unfold inR mov
  rw [List.any_map]
  congr 1
  funext r
  show (decide (r.1 + c ≤ p) && decide (p ≤ r.2 + c)) = _
  congr 1
  · apply decide_eq_decide.mpr; omega
  · apply decide_eq_decide.mpr; omega
theorem inR_mir (n p : Int) (l : List (Int × Int)) : inR (mir n l) p = inR l (n - 1 - p) := by
  unfold inR mir
  rw [List.any_map, List.any_reverse]
  congr 1
  funext r
  show (decide (n - 1 - r.2 ≤ p) && decide (p ≤ n - 1 - r.1)) = _
  rw [Bool.and_comm]
  congr 1
  · apply decide_eq_decide.mpr; omega
  · apply decide_eq_decide.mpr; omega
/-- the state mirrored -/
def mirS (s : StT) : StT := (s.1, mir s.1 s.2.1, s.2.2.map fun a => s.1 - 1 - a)
section
variable {n : Int} {s : StT} {c : CkT}
theorem mir_valid (h : Vs n s) : Vs n (mirS s) := ⟨h.num, h.pos, by show Sel n (mir s.1 s.2.1); rw [h.num]; exact sel_mir h.sel, fun a e => by
  obtain ⟨b, eb, e2⟩ := Option.map_eq_some_iff.mp e
  have := h.anc b eb
  rw [h.num] at e2
  omega⟩
theorem mir_next (h : Vs n s) (hc : Can n s c) : nextS (mirS s) (c.1, n - 1 - c.2) = mirS (nextS s c) := by
  obtain ⟨c0, c1, ck⟩ := hc
  have sm : Sel n (mir n s.2.1) := sel_mir h.sel
  by_cases k : c.1 = ("click" : Str)
  · have e1 : nextS s c = (s.1, clickS s.2.1 c.2, some c.2) := if_pos k
    have e2 : nextS (mirS s) (c.1, n - 1 - c.2) = (s.1, clickS (mir s.1 s.2.1) (n - 1 - c.2), some (n - 1 - c.2)) := if_pos k
    rw [e1, e2]
    unfold mirS
    show (s.1, clickS (mir s.1 s.2.1) (n - 1 - c.2), some (n - 1 - c.2)) = (s.1, mir s.1 (clickS s.2.1 c.2), some (s.1 - 1 - c.2))
    rw [h.num]
    obtain ⟨a1, a2⟩ := click_ok h.sel c0 c1
    obtain ⟨b1, b2⟩ := click_ok (i := n - 1 - c.2) sm (by omega) (by omega)
    have : clickS (mir n s.2.1) (n - 1 - c.2) = mir n (clickS s.2.1 c.2) := sel_uniq b1 (sel_mir a1) fun p _ _ => by
      rw [b2, inR_mir, inR_mir, a2]
      congr 1
      apply decide_eq_decide.mpr
      omega
    rw [this]
  · obtain ⟨a, ea⟩ : ∃ a, s.2.2 = some a := by
      rcases ck with e | e
      · exact absurd e k
      · exact Option.isSome_iff_exists.mp e.2
    have ha := h.anc a ea
    have e1 : nextS s c = (s.1, rangeS s.2.1 (min a c.2) (max a c.2) (inR s.2.1 a), some a) := by
      unfold nextS
      rw [if_neg k, ea]; rfl
    have e2 : nextS (mirS s) (c.1, n - 1 - c.2) = (n, rangeS (mir n s.2.1) (min (n - 1 - a) (n - 1 - c.2)) (max (n - 1 - a) (n - 1 - c.2)) (inR (mir n s.2.1) (n - 1 - a)), some (n - 1 - a)) := by
      unfold nextS mirS
      rw [if_neg k, ea, h.num]; rfl
    rw [e1, e2]
    unfold mirS
    show _ = (s.1, mir s.1 (rangeS s.2.1 (min a c.2) (max a c.2) (inR s.2.1 a)), some (s.1 - 1 - a))
    rw [h.num]
    obtain ⟨a1, a2⟩ := range_ok (m := inR s.2.1 a) h.sel (show 0 ≤ min a c.2 by omega) (show min a c.2 ≤ max a c.2 by omega) (show max a c.2 < n by omega)
    obtain ⟨b1, b2⟩ := range_ok (m := inR (mir n s.2.1) (n - 1 - a)) sm (show 0 ≤ min (n - 1 - a) (n - 1 - c.2) by omega) (show min (n - 1 - a) (n - 1 - c.2) ≤ max (n - 1 - a) (n - 1 - c.2) by omega) (show max (n - 1 - a) (n - 1 - c.2) < n by omega)
    have : rangeS (mir n s.2.1) (min (n - 1 - a) (n - 1 - c.2)) (max (n - 1 - a) (n - 1 - c.2)) (inR (mir n s.2.1) (n - 1 - a)) = mir n (rangeS s.2.1 (min a c.2) (max a c.2) (inR s.2.1 a)) := sel_uniq b1 (sel_mir a1) fun p _ _ => by
      rw [b2, inR_mir n (n - 1 - a) s.2.1, inR_mir n p s.2.1, inR_mir n p, a2, show n - 1 - (n - 1 - a) = a by omega]
      by_cases q : min a c.2 ≤ n - 1 - p ∧ n - 1 - p ≤ max a c.2
      · rw [if_pos q, if_pos (by omega)]
      · rw [if_neg q, if_neg (by omega)]
    rw [this]
end
/-- runs that stand outside -/
structure Out (n d w : Int) (A B : List (Int × Int)) : Prop where
  d0 : 0 ≤ d
  dw : d + n ≤ w
  a1 : ∀ r ∈ A, 0 ≤ r.1 ∧ r.1 ≤ r.2 ∧ r.2 + 1 < d
  a2 : A.Pairwise fun a b => a.2 + 1 < b.1
  b1 : ∀ r ∈ B, d + n < r.1 ∧ r.1 ≤ r.2 ∧ r.2 < w
  b2 : B.Pairwise fun a b => a.2 + 1 < b.1
def putS (d w : Int) (A B : List (Int × Int)) (s : StT) : StT := (w, A ++ mov d s.2.1 ++ B, s.2.2.map fun a => a + d)
section
variable {n d w : Int} {A B : List (Int × Int)} {s : StT} {c : CkT} {l : List (Int × Int)}
theorem put_sel (o : Out n d w A B) (h1 : 1 ≤ n) (h : Sel n l) : Sel w (A ++ mov d l ++ B) := by
  have hm := sel_mov h o.d0
  have lo : ∀ r ∈ mov d l, d ≤ r.1 := fun r hr => by
    obtain ⟨q, hq, e⟩ := List.mem_map.mp hr
    have := h.1 q hq
    rw [← e]
    show d ≤ q.1 + d
    omega
  have := o.dw
  have := o.d0
  refine ⟨fun r hr => ?_, List.pairwise_append.mpr ⟨List.pairwise_append.mpr ⟨o.a2, hm.2, fun x hx y hy => ?_⟩, o.b2, fun x hx y hy => ?_⟩⟩
  · rcases List.mem_append.mp hr with hr | hr
    · rcases List.mem_append.mp hr with hr | hr
      · have := o.a1 r hr; omega
      · have := hm.1 r hr; omega
    · have := o.b1 r hr; omega
  · have := o.a1 x hx
    have := lo y hy
    omega
  · have hb := o.b1 y hy
    rcases List.mem_append.mp hx with hx | hx
    · have := o.a1 x hx; omega
    · have := hm.1 x hx; omega
theorem put_marks (o : Out n d w A B) (p : Int) : inR (A ++ mov d l ++ B) p = (inR A p || inR l (p - d) || inR B p) := by
  rw [inR_app, inR_app, inR_mov]
theorem out_marks (o : Out n d w A B) {p : Int} (h0 : d ≤ p) (h1 : p < d + n) : inR A p = false ∧ inR B p = false := by
  constructor
  · unfold inR
    rw [List.any_eq_false]
    intro r hr
    have := o.a1 r hr
    simp only [Bool.and_eq_true, decide_eq_true_eq]
    omega
  · unfold inR
    rw [List.any_eq_false]
    intro r hr
    have := o.b1 r hr
    simp only [Bool.and_eq_true, decide_eq_true_eq]
    omega
theorem put_valid (o : Out n d w A B) (h : Vs n s) : Vs w (putS d w A B s) := ⟨rfl, by have := o.d0; have := o.dw; have := h.pos; omega, put_sel o h.pos h.sel, fun a e => by
  obtain ⟨b, eb, e2⟩ := Option.map_eq_some_iff.mp e
  have := h.anc b eb
  have := o.d0
  have := o.dw
  omega⟩
theorem put_next (o : Out n d w A B) (h : Vs n s) (hc : Can n s c) : nextS (putS d w A B s) (c.1, c.2 + d) = putS d w A B (nextS s c) := by
  obtain ⟨c0, c1, ck⟩ := hc
  have sm := put_sel (l := s.2.1) o h.pos h.sel
  have d0 := o.d0
  have dw := o.dw
  by_cases k : c.1 = ("click" : Str)
  · have e1 : nextS s c = (s.1, clickS s.2.1 c.2, some c.2) := if_pos k
    have e2 : nextS (putS d w A B s) (c.1, c.2 + d) = (w, clickS (A ++ mov d s.2.1 ++ B) (c.2 + d), some (c.2 + d)) := if_pos k
    rw [e1, e2]
    show _ = (w, A ++ mov d (clickS s.2.1 c.2) ++ B, some (c.2 + d))
    obtain ⟨a1, a2⟩ := click_ok h.sel c0 c1
    obtain ⟨b1, b2⟩ := click_ok (i := c.2 + d) sm (by omega) (by omega)
    have : clickS (A ++ mov d s.2.1 ++ B) (c.2 + d) = A ++ mov d (clickS s.2.1 c.2) ++ B := sel_uniq b1 (put_sel o h.pos a1) fun p _ _ => by
      rw [b2, put_marks o, put_marks o, a2]
      by_cases q : p = c.2 + d
      · obtain ⟨o1, o2⟩ := out_marks o (p := p) (by omega) (by omega)
        have q2 : p - d = c.2 := by omega
        rw [o1, o2, decide_eq_true q, decide_eq_true q2]
        cases inR s.2.1 (p - d) <;> rfl
      · have q2 : ¬ p - d = c.2 := by omega
        rw [decide_eq_false q, decide_eq_false q2]
        cases inR A p <;> cases inR s.2.1 (p - d) <;> cases inR B p <;> rfl
    rw [this]
  · obtain ⟨a, ea⟩ : ∃ a, s.2.2 = some a := by
      rcases ck with e | e
      · exact absurd e k
      · exact Option.isSome_iff_exists.mp e.2
    have ha := h.anc a ea
    have e1 : nextS s c = (s.1, rangeS s.2.1 (min a c.2) (max a c.2) (inR s.2.1 a), some a) := by
      unfold nextS
      rw [if_neg k, ea]; rfl
    have e2 : nextS (putS d w A B s) (c.1, c.2 + d) = (w, rangeS (A ++ mov d s.2.1 ++ B) (min (a + d) (c.2 + d)) (max (a + d) (c.2 + d)) (inR (A ++ mov d s.2.1 ++ B) (a + d)), some (a + d)) := by
      unfold nextS putS
      rw [if_neg k, ea]; rfl
    rw [e1, e2]
    show _ = (w, A ++ mov d (rangeS s.2.1 (min a c.2) (max a c.2) (inR s.2.1 a)) ++ B, some (a + d))
    obtain ⟨o1, o2⟩ := out_marks o (p := a + d) (by omega) (by omega)
    have em : inR (A ++ mov d s.2.1 ++ B) (a + d) = inR s.2.1 a := by
      rw [put_marks o, o1, o2, show a + d - d = a by omega]
      cases inR s.2.1 a <;> rfl
    rw [em]
    obtain ⟨a1, a2⟩ := range_ok (m := inR s.2.1 a) h.sel (show 0 ≤ min a c.2 by omega) (show min a c.2 ≤ max a c.2 by omega) (show max a c.2 < n by omega)
    obtain ⟨b1, b2⟩ := range_ok (m := inR s.2.1 a) sm (show 0 ≤ min (a + d) (c.2 + d) by omega) (show min (a + d) (c.2 + d) ≤ max (a + d) (c.2 + d) by omega) (show max (a + d) (c.2 + d) < w by omega)
    have : rangeS (A ++ mov d s.2.1 ++ B) (min (a + d) (c.2 + d)) (max (a + d) (c.2 + d)) (inR s.2.1 a) = A ++ mov d (rangeS s.2.1 (min a c.2) (max a c.2) (inR s.2.1 a)) ++ B := sel_uniq b1 (put_sel o h.pos a1) fun p _ _ => by
      rw [b2, put_marks o, put_marks o, a2]
      by_cases q : min a c.2 ≤ p - d ∧ p - d ≤ max a c.2
      · obtain ⟨o1, o2⟩ := out_marks o (p := p) (by omega) (by omega)
        rw [if_pos q, if_pos (by omega), o1, o2]
        cases inR s.2.1 a <;> rfl
      · rw [if_neg q, if_neg (by omega)]
    rw [this]
end
end Sx

/-! a list cut into parts on which all marks agree; after how many clicks two selections are equal -/
namespace Sx
open PySem PySem.Spec PyProof PyProof.Rows L2 Dx
def Til (b : Int) (T : List (Int × Int)) : Prop := (∀ r ∈ T, 0 ≤ r.1 ∧ r.1 ≤ r.2 ∧ r.2 < b) ∧ T.Pairwise (fun x y => x.2 < y.1) ∧ ∀ p, 0 ≤ p → p < b → ∃ r ∈ T, r.1 ≤ p ∧ p ≤ r.2
variable {n b e x : Int} {T l : List (Int × Int)}
theorem Til.nil : Til 0 [] := ⟨fun _ h => (nomatch h), .nil, fun p h0 h1 => by omega⟩
theorem Til.snoc (h : Til b T) (b0 : 0 ≤ b) (be : b ≤ e) : Til (e + 1) (T ++ [(b, e)]) := by
  refine ⟨fun r hr => ?_, List.pairwise_append.mpr ⟨h.2.1, List.pairwise_singleton _ _, fun x hx y hy => ?_⟩, fun p h0 h1 => ?_⟩
  · rcases List.mem_append.mp hr with z | z
    · have := h.1 r z; omega
    · rw [List.mem_singleton.mp z]; exact ⟨b0, be, by show e < e + 1; omega⟩
  · rw [List.mem_singleton.mp hy]; exact (h.1 x hx).2.2
  · by_cases z : p < b
    · obtain ⟨r, hr, q⟩ := h.2.2 p h0 z
      exact ⟨r, List.mem_append_left _ hr, q⟩
    · exact ⟨(b, e), List.mem_append_right _ (List.mem_singleton.mpr rfl), by show b ≤ p; omega, by show p ≤ e; omega⟩
theorem Til.inter (h : Til n T) {q r : Int × Int} (hq : q ∈ T) (hr : r ∈ T) (q1 : q.1 ≤ x) (q2 : x ≤ q.2) (r1 : r.1 ≤ x) (r2 : x ≤ r.2) : q = r := by
  obtain ⟨i, hi, ei⟩ := List.mem_iff_getElem.mp hq
  obtain ⟨j, hj, ej⟩ := List.mem_iff_getElem.mp hr
  rcases Nat.lt_trichotomy i j with z | z | z
  · have := List.pairwise_iff_getElem.mp h.2.1 i j hi hj z
    rw [ei, ej] at this; omega
  · subst z
    rw [← ei, ← ej]
  · have := List.pairwise_iff_getElem.mp h.2.1 j i hj hi z
    rw [ei, ej] at this; omega
theorem Til.spot (h : Til n T) (hx : (x, x) ∈ T) {q : Int × Int} (hq : q ∈ T) (q1 : q.1 ≤ x) (q2 : x ≤ q.2) : q = (x, x) := h.inter hq hx q1 q2 (Int.le_refl x) (Int.le_refl x)
theorem Til.first (h : Til n T) {q r : Int × Int} (hq : q ∈ T) (hr : r ∈ T) (e : q.1 = r.1) : q = r := h.inter (x := q.1) hq hr (Int.le_refl _) (h.1 q hq).2.1 (by omega) (by rw [e]; exact (h.1 r hr).2.1)
theorem Til.mono (h : Til n T) {i j : Nat} (hi : i < T.length) (hj : j < T.length) : T[i].1 ≤ T[j].1 ↔ i ≤ j := by
  constructor
  · intro z
    refine Nat.le_of_not_lt fun w => ?_
    have := List.pairwise_iff_getElem.mp h.2.1 j i hj hi w
    have := (h.1 _ (List.getElem_mem hj)).2.1
    omega
  · intro z
    rcases Nat.lt_or_eq_of_le z with w | w
    · have := List.pairwise_iff_getElem.mp h.2.1 i j hi hj w
      have := (h.1 _ (List.getElem_mem hi)).2.1
      omega
    · subst w; exact Int.le_refl _
/-- the index of the part that begins at p -/
def ixOf (T : List (Int × Int)) (p : Int) : Nat := T.findIdx fun r => decide (r.1 = p)
theorem ixOf_ok {r : Int × Int} (hr : r ∈ T) : ∃ h : ixOf T r.1 < T.length, T[ixOf T r.1].1 = r.1 := by
  have h1 : ixOf T r.1 < T.length := List.findIdx_lt_length_of_exists ⟨r, hr, by simp⟩
  refine ⟨h1, ?_⟩
  have := @List.findIdx_getElem _ (fun q : Int × Int => decide (q.1 = r.1)) T h1
  exact of_decide_eq_true this
theorem ixOf_get (h : Til n T) {i : Nat} (hi : i < T.length) : ixOf T T[i].1 = i := by
  obtain ⟨h1, h2⟩ := ixOf_ok (T := T) (List.getElem_mem hi)
  have a := (h.mono h1 hi).mp (by rw [h2]; exact Int.le_refl _)
  have b := (h.mono hi h1).mp (by rw [h2]; exact Int.le_refl _)
  omega
/-- the marks agree on each part -/
def Cst (T l : List (Int × Int)) : Prop := ∀ q ∈ T, ∀ p, q.1 ≤ p → p ≤ q.2 → inR l p = inR l q.1
theorem cst_start (h : Til n T) (hl : Sel n l) (hs : ∀ r ∈ l, (r.1, r.1) ∈ T ∧ (r.2, r.2) ∈ T) : Cst T l := by
  intro q hq p p1 p2
  refine inR_const hl (fun x hx z => ?_) p1
  obtain ⟨r, hr, e⟩ := bords_mem hx
  rcases e with e | e
  · have := h.spot (hs r hr).1 hq (by omega) (by omega)
    rw [this] at z
    simp only at z
    omega
  · have := h.spot (hs r hr).2 hq (by omega) (by omega)
    rw [this] at z p2
    simp only at z p2
    omega
theorem marks_eq (h : Til n T) {l k : List (Int × Int)} (hl : Sel n l) (hk : Sel n k) (cl : Cst T l) (ck : Cst T k) : (T.map fun r => inR l r.1) = (T.map fun r => inR k r.1) ↔ l = k := by
  constructor
  · intro e
    refine sel_uniq hl hk fun p p0 p1 => ?_
    obtain ⟨r, hr, r1, r2⟩ := h.2.2 p p0 p1
    rw [cl r hr p r1 r2, ck r hr p r1 r2]
    exact List.map_inj_left.mp e r hr
  · intro e; rw [e]
/-! ### the clicks -/
def anc (s : StT) (c : CkT) : Int := if c.1 = ("click" : Str) then c.2 else s.2.2.getD 0
theorem next_anc {s : StT} {c : CkT} (hc : Can n s c) : (nextS s c).2.2 = some (anc s c) := by
  unfold nextS anc
  split
  · rfl
  · rename_i z
    rcases hc.2.2 with y | y
    · exact absurd y z
    · obtain ⟨a, ea⟩ := Option.isSome_iff_exists.mp y.2
      show s.2.2 = _
      rw [ea]; rfl
theorem next_marks {s : StT} {c : CkT} (h : Vs n s) (hc : Can n s c) (p : Int) : inR (nextS s c).2.1 p = if min (anc s c) c.2 ≤ p ∧ p ≤ max (anc s c) c.2 then (inR s.2.1 (anc s c) != decide (c.1 = ("click" : Str))) else inR s.2.1 p := by
  unfold nextS anc
  by_cases z : c.1 = ("click" : Str)
  · rw [if_pos z, if_pos z, decide_eq_true z]
    show inR (clickS s.2.1 c.2) p = _
    rw [(click_ok h.sel hc.1 hc.2.1).2 p]
    by_cases y : p = c.2
    · rw [if_pos (by omega), decide_eq_true y, y]
    · rw [if_neg (by omega), decide_eq_false y]
      cases inR s.2.1 p <;> rfl
  · rw [if_neg z, if_neg z, decide_eq_false z]
    rcases hc.2.2 with y | y
    · exact absurd y z
    · obtain ⟨a, ea⟩ := Option.isSome_iff_exists.mp y.2
      have ha := h.anc a ea
      have hc2 := hc.1
      have hc3 := hc.2.1
      rw [ea]
      show inR (rangeS s.2.1 (min a c.2) (max a c.2) (inR s.2.1 a)) p = if min a c.2 ≤ p ∧ p ≤ max a c.2 then (inR s.2.1 a != false) else inR s.2.1 p
      rw [(range_ok h.sel (by omega) (by omega) (by omega)).2 p]
      split
      · cases inR s.2.1 a <;> rfl
      · rfl
theorem min_spot {P : Int → Prop} {a c : Int} (ha : P a) (hc : P c) : P (min a c) ∧ P (max a c) := by
  by_cases z : a ≤ c
  · rw [Int.min_eq_left z, Int.max_eq_right z]; exact ⟨ha, hc⟩
  · rw [Int.min_eq_right (by omega), Int.max_eq_left (by omega)]; exact ⟨hc, ha⟩
theorem cst_next {s : StT} {c : CkT} (h : Til n T) (v : Vs n s) (hc : Can n s c) (hs : Cst T s.2.1) (sa : (anc s c, anc s c) ∈ T) (sc : (c.2, c.2) ∈ T) : Cst T (nextS s c).2.1 := by
  intro q hq p p1 p2
  obtain ⟨m1, m2⟩ := min_spot (P := fun x => (x, x) ∈ T) sa sc
  rw [next_marks v hc p, next_marks v hc q.1, hs q hq p p1 p2]
  have k1 : min (anc s c) c.2 ≤ p ↔ min (anc s c) c.2 ≤ q.1 := by
    refine ⟨fun z => Int.not_lt.mp fun w => ?_, fun z => by omega⟩
    have := h.spot m1 hq (by omega) (by omega)
    rw [this] at w
    simp only at w
    omega
  have k2 : p ≤ max (anc s c) c.2 ↔ q.1 ≤ max (anc s c) c.2 := by
    refine ⟨fun z => by omega, fun z => Int.not_lt.mp fun w => ?_⟩
    have := h.spot m2 hq z (by omega)
    rw [this] at p2
    simp only at p2
    omega
  by_cases z : min (anc s c) c.2 ≤ q.1 ∧ q.1 ≤ max (anc s c) c.2
  · rw [if_pos z, if_pos (by rw [k1, k2]; exact z)]
  · rw [if_neg z, if_neg (by rw [k1, k2]; exact z)]
/-- after how many clicks both selections are equal -/
def fE : Nat → StT → StT → List CkT → Option Int
  | k, s, t, [] => if s.2.1 = t.2.1 then some (k : Int) else none
  | k, s, t, c :: C => if s.2.1 = t.2.1 then some (k : Int) else fE (k + 1) (nextS s c) (nextS t c) C
theorem fE_le : ∀ (C : List CkT) (k : Nat) (s t : StT) (v : Int), fE k s t C = some v → (k : Int) ≤ v ∧ v ≤ (k + C.length : Nat)
  | [], k, s, t, v, h => by
    unfold fE at h
    split at h
    · cases h; simp
    · cases h
  | c :: C, k, s, t, v, h => by
    unfold fE at h
    split at h
    · cases h; simp only [List.length_cons]; omega
    · have := fE_le C (k + 1) _ _ v h
      simp only [List.length_cons]
      omega
/-- item 0 alone agrees -/
def Dif (n : Int) (s t : StT) : Prop := inR s.2.1 0 = inR t.2.1 0 ∧ ∀ p, 1 ≤ p → p < n → inR s.2.1 p ≠ inR t.2.1 p
theorem dif_next {s t : StT} {c : CkT} (vs : Vs n s) (vt : Vs n t) (e : s.2.2 = t.2.2) (cs : Can n s c) (ct : Can n t c) (c1 : 1 ≤ c.2) (a1 : 1 ≤ anc s c) (an : anc s c < n) (d : Dif n s t) : Dif n (nextS s c) (nextS t c) := by
  have ea : anc t c = anc s c := by unfold anc; rw [e]
  refine ⟨?_, fun p p1 p2 => ?_⟩
  · rw [next_marks vs cs, next_marks vt ct, ea, if_neg (by omega), if_neg (by omega)]
    exact d.1
  · rw [next_marks vs cs, next_marks vt ct, ea]
    by_cases z : min (anc s c) c.2 ≤ p ∧ p ≤ max (anc s c) c.2
    · rw [if_pos z, if_pos z]
      have := d.2 (anc s c) a1 an
      revert this
      cases inR s.2.1 (anc s c) <;> cases inR t.2.1 (anc s c) <;> cases decide (c.1 = ("click" : Str)) <;> decide
    · rw [if_neg z, if_neg z]
      exact d.2 p p1 p2
theorem dif_ne {s t : StT} (h2 : 2 ≤ n) (d : Dif n s t) : s.2.1 ≠ t.2.1 := fun e => d.2 1 (Int.le_refl _) (by omega) (by rw [e])
theorem fE_last (h2 : 2 ≤ n) : ∀ (C : List CkT) (k : Nat) (s t : StT), Vs n s → Vs n t → s.2.2 = t.2.2 → (∀ a, s.2.2 = some a → 1 ≤ a) → (∀ c ∈ C, 1 ≤ c.2) → Cans n s C → Cans n t C → Dif n s t → fE k s t (C ++ [(("click" : Str), 0), (("range" : Str), n - 1)]) = some ((k + C.length + 2 : Nat) : Int)
  | [], k, s, t, vs, vt, e, _, _, _, _, d => by
    have c0 : ∀ u : StT, Can n u (("click" : Str), 0) := fun u => ⟨Int.le_refl 0, by show (0 : Int) < n; omega, .inl rfl⟩
    have v1 := next_valid vs (c0 s)
    have w1 := next_valid vt (c0 t)
    have a1 := next_anc (c0 s)
    have b1 := next_anc (c0 t)
    have cc : ∀ u : StT, u.2.2 = some (0 : Int) → Can n u (("range" : Str), n - 1) := fun u hu => ⟨by show (0 : Int) ≤ n - 1; omega, by show n - 1 < n; omega, .inr ⟨rfl, by rw [hu]; rfl⟩⟩
    have a1' : (nextS s (("click" : Str), 0)).2.2 = some 0 := a1
    have b1' : (nextS t (("click" : Str), 0)).2.2 = some 0 := b1
    have n1 : s.2.1 ≠ t.2.1 := dif_ne h2 d
    have m1 : ∀ {u : StT}, Vs n u → ∀ p, inR (nextS u (("click" : Str), 0)).2.1 p = if p = 0 then !inR u.2.1 0 else inR u.2.1 p := fun {u} v p => by
      rw [next_marks v (c0 u)]
      show (if min (0 : Int) 0 ≤ p ∧ p ≤ max (0 : Int) 0 then (inR u.2.1 0 != decide (("click" : Str) = ("click" : Str))) else inR u.2.1 p) = _
      by_cases z : p = 0
      · rw [if_pos (by omega), if_pos z, decide_eq_true rfl]
        cases inR u.2.1 0 <;> rfl
      · rw [if_neg (by omega), if_neg z]
    have n2 : (nextS s (("click" : Str), 0)).2.1 ≠ (nextS t (("click" : Str), 0)).2.1 := fun z => by
      have p1 := m1 vs 1
      have p2 := m1 vt 1
      rw [if_neg (by decide)] at p1 p2
      rw [z] at p1
      exact d.2 1 (Int.le_refl _) (by omega) (by rw [← p1, ← p2])
    have n3 : (nextS (nextS s (("click" : Str), 0)) (("range" : Str), n - 1)).2.1 = (nextS (nextS t (("click" : Str), 0)) (("range" : Str), n - 1)).2.1 := by
      refine sel_uniq (next_valid v1 (cc _ a1')).sel (next_valid w1 (cc _ b1')).sel fun p p0 p1 => ?_
      rw [next_marks v1 (cc _ a1'), next_marks w1 (cc _ b1')]
      have q1 : ∀ u : StT, u.2.2 = some (0 : Int) → anc u (("range" : Str), n - 1) = 0 := fun u hu => by
        unfold anc
        rw [if_neg (show ¬ (("range" : Str) = ("click" : Str)) by decide), hu]; rfl
      rw [q1 _ a1', q1 _ b1', if_pos (by show min (0 : Int) (n - 1) ≤ p ∧ p ≤ max (0 : Int) (n - 1); omega), if_pos (by show min (0 : Int) (n - 1) ≤ p ∧ p ≤ max (0 : Int) (n - 1); omega), m1 vs 0, m1 vt 0, if_pos rfl, if_pos rfl, d.1]
    show (if _ then _ else (if _ then _ else (if _ then _ else _))) = _
    rw [if_neg n1, if_neg n2, if_pos n3]
    rfl
  | c :: C, k, s, t, vs, vt, e, ha, hC, cs, ct, d => by
    have n1 : s.2.1 ≠ t.2.1 := dif_ne h2 d
    have c1 := hC c (List.mem_cons_self ..)
    have cn : c.2 < n := cs.1.2.1
    have an : 1 ≤ anc s c ∧ anc s c < n := by
      unfold anc
      split
      · exact ⟨c1, cn⟩
      · rename_i z
        rcases cs.1.2.2 with y | y
        · exact absurd y z
        · obtain ⟨a, ea⟩ := Option.isSome_iff_exists.mp y.2
          rw [ea]
          exact ⟨ha a ea, (vs.anc a ea).2⟩
    have ea : anc t c = anc s c := by unfold anc; rw [e]
    have ih := fE_last h2 C (k + 1) (nextS s c) (nextS t c) (next_valid vs cs.1) (next_valid vt ct.1) (by rw [next_anc cs.1, next_anc ct.1, ea]) (fun a h => by rw [next_anc cs.1] at h; cases h; exact an.1) (fun x hx => hC x (List.mem_cons_of_mem _ hx)) cs.2 ct.2 (dif_next vs vt e cs.1 ct.1 c1 an.1 an.2 d)
    show (if s.2.1 = t.2.1 then _ else fE (k + 1) (nextS s c) (nextS t c) (C ++ [(("click" : Str), 0), (("range" : Str), n - 1)])) = _
    rw [if_neg n1, ih, List.length_cons]
    congr 2
    omega
end Sx

/-! to unify the marks: the clicks, and what they do to marks -/
namespace Sx
open PySem PySem.Spec PyProof.Rows L2 Dx
abbrev MkT := Option Int × (Int → Bool)
/-- marks after a click -/
def stepM (m : MkT) (c : Str × Int) : MkT :=
  let a := if c.1 = ("click" : Str) then some c.2 else m.1
  (a, fun p => if min (a.getD 0) c.2 ≤ p ∧ p ≤ max (a.getD 0) c.2 then (m.2 (a.getD 0) != decide (c.1 = ("click" : Str))) else m.2 p)
def uni (W : List (Int × Int)) (inl : Int → Bool) (wish : Bool) (an : Option Int) : List (Str × Int) :=
  if W = [] then [] else
  if (ixI ((0 : Int), (0 : Int)) W 0).1 = (ixI ((0 : Int), (0 : Int)) W (-1)).2 then [(("click" : Str), (ixI ((0 : Int), (0 : Int)) W 0).1)] else
  if an.isSome = true ∧ inl (an.getD 0) = wish ∧ ¬ ((ixI ((0 : Int), (0 : Int)) W 0).1 < an.getD 0 ∧ an.getD 0 < (ixI ((0 : Int), (0 : Int)) W (-1)).2) then
    [(("range" : Str), if an.getD 0 < (ixI ((0 : Int), (0 : Int)) W 0).1 then (ixI ((0 : Int), (0 : Int)) W (-1)).2 else (ixI ((0 : Int), (0 : Int)) W 0).1)]
  else [(("click" : Str), (ixI ((0 : Int), (0 : Int)) W 0).1), (("range" : Str), (ixI ((0 : Int), (0 : Int)) W (-1)).2)]
def dueI (W : List (Int × Int)) (an : Option Int) : Int :=
  if W = [] then 0 else
  if (ixI ((0 : Int), (0 : Int)) W 0).1 = (ixI ((0 : Int), (0 : Int)) W (-1)).2 then 1 else
  if an.isNone = true ∨ inR W (an.getD 0) = true then 2 else
  if an.getD 0 < (ixI ((0 : Int), (0 : Int)) W 0).1 ∨ (ixI ((0 : Int), (0 : Int)) W (-1)).2 < an.getD 0 then 1 else 2
section
variable {n : Int} {W : List (Int × Int)} {inl : Int → Bool} {wish : Bool} {an : Option Int}
theorem range_click : ¬ (("range" : Str) = ("click" : Str)) := by decide
theorem ix_first {r : Int × Int} {l : List (Int × Int)} : ixI ((0 : Int), (0 : Int)) (r :: l) 0 = r := rfl
theorem ix_lastS {α : Type} {d r : α} {l : List α} : ixI d (l ++ [r]) (-1) = r := by
  unfold ixI
  rw [if_neg (by decide), List.length_append, List.length_singleton, show ((-1 : Int) + ((l.length + 1 : Nat) : Int)).toNat = l.length by omega]
  simp
theorem sel_ends (h : Sel n W) (hne : W ≠ []) : ∃ f g, (ixI ((0 : Int), (0 : Int)) W 0).1 = f ∧ (ixI ((0 : Int), (0 : Int)) W (-1)).2 = g ∧ 0 ≤ f ∧ f ≤ g ∧ g < n ∧ inR W f = true ∧ inR W g = true ∧ (∀ p, inR W p = true → f ≤ p ∧ p ≤ g) := by
  obtain ⟨r, l, rfl⟩ : ∃ r l, W = r :: l := by cases W with | nil => exact absurd rfl hne | cons r l => exact ⟨r, l, rfl⟩
  obtain ⟨l0, q, e⟩ : ∃ l0 q, r :: l = l0 ++ [q] := ⟨_, _, (List.dropLast_concat_getLast hne).symm⟩
  have eq : ixI ((0 : Int), (0 : Int)) (r :: l) (-1) = q := by
    rw [e]
    exact ix_lastS
  have hq : q ∈ r :: l := by rw [e]; simp
  have r1 := h.1 r (List.mem_cons_self ..)
  have q1 := h.1 q hq
  have hlow : ∀ x ∈ r :: l, r.1 ≤ x.1 := fun x hx => by
    rcases List.mem_cons.mp hx with y | y
    · rw [y]; exact Int.le_refl _
    · have := (List.pairwise_cons.mp h.2).1 x y
      omega
  have hhigh : ∀ x ∈ r :: l, x.2 ≤ q.2 := fun x hx => by
    rw [e] at hx
    rcases List.mem_append.mp hx with y | y
    · have h2 := h.2
      rw [e] at h2
      have := (List.pairwise_append.mp h2).2.2 x y q (by simp)
      omega
    · rw [List.mem_singleton.mp y]; exact Int.le_refl _
  refine ⟨r.1, q.2, rfl, by rw [eq], r1.1, by have := hlow q hq; omega, q1.2.2, inR_true.mpr ⟨r, List.mem_cons_self .., Int.le_refl _, r1.2.1⟩, inR_true.mpr ⟨q, hq, q1.2.1, Int.le_refl _⟩, fun p hp => ?_⟩
  obtain ⟨x, hx, a, b⟩ := inR_true.mp hp
  have := hlow x hx
  have := hhigh x hx
  omega
/-- every click of the answer is an item; a range comes with an anchor; all marks are as wished; the number -/
theorem uni_ok (h : Sel n W) (hW : ∀ p, 0 ≤ p → p < n → inR W p = (inl p != wish)) (ha : ∀ a, an = some a → 0 ≤ a ∧ a < n) :
    (∀ c ∈ uni W inl wish an, 0 ≤ c.2 ∧ c.2 < n) ∧ (an = none → ∀ c l, uni W inl wish an = c :: l → c.1 = ("click" : Str)) ∧ ((uni W inl wish an).length : Int) = dueI W an ∧
    (∀ p, 0 ≤ p → p < n → ((uni W inl wish an).foldl stepM (an, inl)).2 p = wish) := by
  have bx : ∀ {a b : Bool}, (a != b) = false → a = b := by intro a b; cases a <;> cases b <;> decide
  have bt : ∀ {a b : Bool}, (a != b) = true → (a != true) = b := by intro a b; cases a <;> cases b <;> decide
  unfold uni dueI
  by_cases e0 : W = []
  · rw [if_pos e0, if_pos e0]
    refine ⟨fun _ h => (nomatch h), fun _ _ _ q => (nomatch q), rfl, fun p h0 h1 => ?_⟩
    have := hW p h0 h1
    rw [e0] at this
    exact bx this.symm
  · rw [if_neg e0, if_neg e0]
    obtain ⟨f, g, ef, eg, f0, fg, gn, wf, wg, wb⟩ := sel_ends h e0
    rw [ef, eg]
    have nf := hW f f0 (by omega)
    have ng := hW g (by omega) gn
    rw [wf] at nf
    rw [wg] at ng
    have out : ∀ p, 0 ≤ p → p < n → (p < f ∨ g < p) → inl p = wish := fun p h0 h1 ho => by
      have := hW p h0 h1
      cases e : inR W p with
      | true => have := wb p e; omega
      | false => rw [e] at this; exact bx this.symm
    by_cases e1 : f = g
    · rw [if_pos e1, if_pos e1]
      refine ⟨fun c hc => ?_, fun _ c l q => ?_, rfl, fun p h0 h1 => ?_⟩
      · rw [List.mem_singleton.mp hc]; exact ⟨f0, by show f < n; omega⟩
      · cases q; rfl
      · show (if min f f ≤ p ∧ p ≤ max f f then (inl f != decide _) else inl p) = wish
        split
        · exact bt nf.symm
        · exact out p h0 h1 (by omega)
    · rw [if_neg e1, if_neg e1]
      cases an with
      | none =>
        rw [if_neg (fun z => by simp at z), if_pos (show (none : Option Int).isNone = true ∨ inR W ((none : Option Int).getD 0) = true from Or.inl rfl)]
        refine ⟨fun c hc => ?_, fun _ c l q => ?_, rfl, fun p h0 h1 => ?_⟩
        · rcases List.mem_cons.mp hc with y | y
          · rw [y]; exact ⟨f0, by show f < n; omega⟩
          · rw [List.mem_singleton.mp y]; exact ⟨by show 0 ≤ g; omega, gn⟩
        · cases q; rfl
        · show (if min f g ≤ p ∧ p ≤ max f g then ((if min f f ≤ f ∧ f ≤ max f f then (inl f != decide _) else inl f) != decide _) else (if min f f ≤ p ∧ p ≤ max f f then (inl f != decide _) else inl p)) = wish
          rw [if_pos (show min f f ≤ f ∧ f ≤ max f f by omega)]
          split
          · have := bt nf.symm
            show ((inl f != true) != false) = wish
            rw [this]; cases wish <;> rfl
          · rw [if_neg (show ¬ (min f f ≤ p ∧ p ≤ max f f) by omega)]
            exact out p h0 h1 (by omega)
      | some a =>
        obtain ⟨a0, a1⟩ := ha a rfl
        have na := hW a a0 a1
        have two : (if (some a).isNone = true ∨ inR W a = true then 2 else if a < f ∨ g < a then 1 else (2 : Int)) = if inl a = wish ∧ ¬ (f < a ∧ a < g) then 1 else 2 := by
          cases e : inR W a with
          | true =>
            rw [if_pos (Or.inr rfl), if_neg]
            rintro ⟨z, _⟩
            rw [e, z] at na
            cases wish <;> cases na
          | false =>
            rw [e] at na
            have ea := bx na.symm
            have af : a ≠ f := fun z => by rw [z, wf] at e; cases e
            have ag : a ≠ g := fun z => by rw [z, wg] at e; cases e
            rw [if_neg (by simp)]
            by_cases z : a < f ∨ g < a
            · rw [if_pos z, if_pos ⟨ea, by omega⟩]
            · rw [if_neg z, if_neg (fun y => by omega)]
        by_cases e2 : inl a = wish ∧ ¬ (f < a ∧ a < g)
        · have af : a ≠ f := fun z => by rw [← z, e2.1] at nf; cases wish <;> cases nf
          have ag : a ≠ g := fun z => by rw [← z, e2.1] at ng; cases wish <;> cases ng
          rw [if_pos ⟨rfl, e2⟩]
          refine ⟨fun c hc => ?_, fun z => (nomatch z), ?_, fun p h0 h1 => ?_⟩
          · rw [List.mem_singleton.mp hc]
            show 0 ≤ (if a < f then g else f) ∧ (if a < f then g else f) < n
            split <;> omega
          · show (1 : Int) = (if (some a).isNone = true ∨ inR W a = true then 2 else if a < f ∨ g < a then 1 else (2 : Int))
            rw [two, if_pos e2]
          · show (if min a (if a < f then g else f) ≤ p ∧ p ≤ max a (if a < f then g else f) then (inl a != false) else inl p) = wish
            by_cases z : min a (if a < f then g else f) ≤ p ∧ p ≤ max a (if a < f then g else f)
            · rw [if_pos z, e2.1]; cases wish <;> rfl
            · rw [if_neg z]
              refine out p h0 h1 ?_
              by_cases y : a < f
              · rw [if_pos y] at z; omega
              · rw [if_neg y] at z; omega
        · rw [if_neg (fun z => e2 z.2)]
          refine ⟨fun c hc => ?_, fun z => (nomatch z), ?_, fun p h0 h1 => ?_⟩
          · rcases List.mem_cons.mp hc with y | y
            · rw [y]; exact ⟨f0, by show f < n; omega⟩
            · rw [List.mem_singleton.mp y]; exact ⟨by show 0 ≤ g; omega, gn⟩
          · show (2 : Int) = (if (some a).isNone = true ∨ inR W a = true then 2 else if a < f ∨ g < a then 1 else (2 : Int))
            rw [two, if_neg e2]
          · show (if min f g ≤ p ∧ p ≤ max f g then ((if min f f ≤ f ∧ f ≤ max f f then (inl f != decide _) else inl f) != decide _) else (if min f f ≤ p ∧ p ≤ max f f then (inl f != decide _) else inl p)) = wish
            rw [if_pos (show min f f ≤ f ∧ f ≤ max f f by omega)]
            split
            · have := bt nf.symm
              show ((inl f != true) != false) = wish
              rw [this]; cases wish <;> rfl
            · rw [if_neg (show ¬ (min f f ≤ p ∧ p ≤ max f f) by omega)]
              exact out p h0 h1 (by omega)
end
end Sx

/-! clicks after which two selections are equal -/
namespace Sx
open PySem PySem.Spec PyProof PyProof.Rows L2 Dx
variable {n : Int} {W l k : List (Int × Int)} {s t : StT} {c : CkT}
theorem agr_click (vs : Vs n s) (vt : Vs n t) (cs : Can n s c) (ct : Can n t c) (hk : c.1 = ("click" : Str)) (p : Int) : inR (nextS s c).2.1 p = inR (nextS t c).2.1 p ↔ inR s.2.1 p = inR t.2.1 p := by
  have as : anc s c = c.2 := by unfold anc; rw [if_pos hk]
  have at' : anc t c = c.2 := by unfold anc; rw [if_pos hk]
  rw [next_marks vs cs, next_marks vt ct, as, at', decide_eq_true hk]
  by_cases z : min c.2 c.2 ≤ p ∧ p ≤ max c.2 c.2
  · rw [if_pos z, if_pos z, show c.2 = p by omega]
    cases inR s.2.1 p <;> cases inR t.2.1 p <;> decide
  · rw [if_neg z, if_neg z]
theorem agr_range {a : Int} (vs : Vs n s) (vt : Vs n t) (cs : Can n s c) (ct : Can n t c) (hk : c.1 = ("range" : Str)) (es : s.2.2 = some a) (et : t.2.2 = some a) (ha : inR s.2.1 a = inR t.2.1 a) (p : Int) : inR (nextS s c).2.1 p = inR (nextS t c).2.1 p ↔ (min a c.2 ≤ p ∧ p ≤ max a c.2) ∨ inR s.2.1 p = inR t.2.1 p := by
  have hk' : ¬ c.1 = ("click" : Str) := by rw [hk]; decide
  have as : anc s c = a := by unfold anc; rw [if_neg hk', es]; rfl
  have at' : anc t c = a := by unfold anc; rw [if_neg hk', et]; rfl
  rw [next_marks vs cs, next_marks vt ct, as, at', decide_eq_false hk']
  by_cases z : min a c.2 ≤ p ∧ p ≤ max a c.2
  · rw [if_pos z, if_pos z, ha]
    exact ⟨fun _ => .inl z, fun _ => rfl⟩
  · rw [if_neg z, if_neg z]
    exact ⟨.inr, fun h => h.resolve_left z⟩
theorem ne_at {p : Int} (h : inR s.2.1 p ≠ inR t.2.1 p) : s.2.1 ≠ t.2.1 := fun e => h (by rw [e])
theorem eq_all (vs : Vs n s) (vt : Vs n t) (h : ∀ p, 0 ≤ p → p < n → inR s.2.1 p = inR t.2.1 p) : s.2.1 = t.2.1 := sel_uniq vs.sel vt.sel h
def meetC (n : Int) (W : List (Int × Int)) : Option (List (Str × Int)) :=
  if W = [] then some [] else
  if 0 < (ixI ((0 : Int), (0 : Int)) W 0).1 then some [(("click" : Str), (0 : Int)), (("range" : Str), (ixI ((0 : Int), (0 : Int)) W (-1)).2)] else
  if (ixI ((0 : Int), (0 : Int)) W (-1)).2 < n - 1 then some [(("click" : Str), n - 1), (("range" : Str), (ixI ((0 : Int), (0 : Int)) W 0).1)] else
  if (W.length : Int) = 1 then none else
  some [(("click" : Str), (ixI ((0 : Int), (0 : Int)) W 0).2 + 1), (("range" : Str), (ixI ((0 : Int), (0 : Int)) W 0).1), (("range" : Str), (ixI ((0 : Int), (0 : Int)) W (-1)).2)]
def dueM (n : Int) (W : List (Int × Int)) : Option Int :=
  if W = [] then some 0 else
  if 0 < (ixI ((0 : Int), (0 : Int)) W 0).1 ∨ (ixI ((0 : Int), (0 : Int)) W (-1)).2 < n - 1 then some 2 else
  if 1 < (W.length : Int) then some 3 else none
theorem due_meet : (meetC n W).map (fun C => (C.length : Int)) = dueM n W := by
  unfold meetC dueM
  by_cases h0 : W = []
  · rw [if_pos h0, if_pos h0]; rfl
  · rw [if_neg h0, if_neg h0]
    have hl : 0 < W.length := List.length_pos_iff.mpr h0
    by_cases h1 : 0 < (ixI ((0 : Int), (0 : Int)) W 0).1
    · rw [if_pos h1, if_pos (.inl h1)]; rfl
    · rw [if_neg h1]
      by_cases h2 : (ixI ((0 : Int), (0 : Int)) W (-1)).2 < n - 1
      · rw [if_pos h2, if_pos (.inr h2)]; rfl
      · rw [if_neg h2, if_neg (not_or.mpr ⟨h1, h2⟩)]
        by_cases h3 : (W.length : Int) = 1
        · rw [if_pos h3, if_neg (by omega)]; rfl
        · rw [if_neg h3, if_pos (by omega)]; rfl
theorem two_clicks {i f : Int} (vs : Vs n s) (vt : Vs n t) (i0 : 0 ≤ i) (i1 : i < n) (f0 : 0 ≤ f) (f1 : f < n) {d : Int} (hd : inR s.2.1 d ≠ inR t.2.1 d) (hi : inR s.2.1 i = inR t.2.1 i) (hall : ∀ p, 0 ≤ p → p < n → inR s.2.1 p ≠ inR t.2.1 p → min i f ≤ p ∧ p ≤ max i f) :
    fE 0 s t [(("click" : Str), i), (("range" : Str), f)] = some 2 := by
  have c1 : ∀ u : StT, Can n u (("click" : Str), i) := fun u => ⟨i0, i1, .inl rfl⟩
  have a1 : (nextS s (("click" : Str), i)).2.2 = some i := next_anc (c1 s)
  have b1 : (nextS t (("click" : Str), i)).2.2 = some i := next_anc (c1 t)
  have c2 : ∀ u : StT, u.2.2 = some i → Can n u (("range" : Str), f) := fun u h => ⟨f0, f1, .inr ⟨rfl, by rw [h]; rfl⟩⟩
  have v1 := next_valid vs (c1 s)
  have w1 := next_valid vt (c1 t)
  have g1 := agr_click vs vt (c1 s) (c1 t) rfl
  have g2 := agr_range v1 w1 (c2 _ a1) (c2 _ b1) rfl a1 b1 ((g1 i).mpr hi)
  have n0 : s.2.1 ≠ t.2.1 := ne_at hd
  have n1 : (nextS s (("click" : Str), i)).2.1 ≠ (nextS t (("click" : Str), i)).2.1 := ne_at (p := d) fun z => hd ((g1 d).mp z)
  have n2 := eq_all (next_valid v1 (c2 _ a1)) (next_valid w1 (c2 _ b1)) fun p p0 p1 => (g2 p).mpr (by
    by_cases z : inR s.2.1 p = inR t.2.1 p
    · exact .inr ((g1 p).mpr z)
    · exact .inl (hall p p0 p1 z))
  show (if _ then _ else (if _ then _ else (if _ then _ else _))) = _
  rw [if_neg n0, if_neg n1, if_pos n2]
  rfl
theorem meet_law {C : List (Str × Int)} (n1 : 1 ≤ n) (hl : Sel n l) (hk : Sel n k) (hW : Sel n W) (hd : ∀ p, inR W p = (inR l p != inR k p)) (e : meetC n W = some C) :
    (∀ c ∈ C, 0 ≤ c.2 ∧ c.2 < n ∧ (c.1 = ("click" : Str) ∨ c.1 = ("range" : Str))) ∧ (∀ c r, C = c :: r → c.1 = ("click" : Str)) ∧ C.length ≤ 3 ∧ fE 0 (n, l, none) (n, k, none) C = some (C.length : Int) := by
  have vs : Vs n (n, l, none) := ⟨rfl, n1, hl, fun a e => nomatch e⟩
  have vt : Vs n (n, k, none) := ⟨rfl, n1, hk, fun a e => nomatch e⟩
  have ne : ∀ {p}, inR l p ≠ inR k p ↔ inR W p = true := fun {p} => by
    rw [hd p]
    cases inR l p <;> cases inR k p <;> simp
  have eqq : ∀ {p}, inR W p = false → inR l p = inR k p := fun {p} z => by
    rw [hd p] at z
    revert z
    cases inR l p <;> cases inR k p <;> simp
  unfold meetC at e
  by_cases h0 : W = []
  · rw [if_pos h0] at e
    injection e with e
    subst e
    refine ⟨fun _ h => (nomatch h), fun _ _ h => (nomatch h), by simp, ?_⟩
    have : l = k := sel_uniq hl hk fun p _ _ => eqq (by rw [h0]; rfl)
    show (if l = k then some (0 : Int) else none) = _
    rw [if_pos this]
    rfl
  · rw [if_neg h0] at e
    obtain ⟨f, g, ef, eg, f0, fg, gn, hf, hg, hr⟩ := sel_ends hW h0
    rw [ef, eg] at e
    have out : ∀ {p}, ¬ (f ≤ p ∧ p ≤ g) → inR l p = inR k p := fun {p} z => eqq (Bool.eq_false_iff.mpr fun y => z (hr p y))
    by_cases h1 : 0 < f
    · rw [if_pos h1] at e
      injection e with e
      subst e
      refine ⟨fun c hc => ?_, fun c r z => ?_, by simp, ?_⟩
      · have hc' : c = (("click" : Str), (0 : Int)) ∨ c = (("range" : Str), g) := by simpa using hc
        rcases hc' with y | y <;> rw [y]
        · exact ⟨Int.le_refl 0, by show (0 : Int) < n; omega, .inl rfl⟩
        · exact ⟨by show 0 ≤ g; omega, gn, .inr rfl⟩
      · injection z with z _
        rw [← z]
      · refine two_clicks vs vt (Int.le_refl 0) (by omega) (by omega) gn (d := f) (ne.mpr hf) (out (by omega)) fun p p0 p1 z => ?_
        have := hr p (ne.mp z)
        omega
    · rw [if_neg h1] at e
      by_cases h2 : g < n - 1
      · rw [if_pos h2] at e
        injection e with e
        subst e
        refine ⟨fun c hc => ?_, fun c r z => ?_, by simp, ?_⟩
        · have hc' : c = (("click" : Str), n - 1) ∨ c = (("range" : Str), f) := by simpa using hc
          rcases hc' with y | y <;> rw [y]
          · exact ⟨by show 0 ≤ n - 1; omega, by show n - 1 < n; omega, .inl rfl⟩
          · exact ⟨f0, by show f < n; omega, .inr rfl⟩
        · injection z with z _
          rw [← z]
        · refine two_clicks vs vt (by omega) (by omega) f0 (by omega) (d := f) (ne.mpr hf) (out (by omega)) fun p p0 p1 z => ?_
          have := hr p (ne.mp z)
          omega
      · rw [if_neg h2] at e
        by_cases h3 : (W.length : Int) = 1
        · rw [if_pos h3] at e; cases e
        · rw [if_neg h3] at e
          obtain ⟨r0, r1, rest, rfl⟩ : ∃ r0 r1 rest, W = r0 :: r1 :: rest := by
            cases W with
            | nil => exact absurd rfl h0
            | cons r0 W' =>
              cases W' with
              | nil => exact absurd rfl h3
              | cons r1 rest => exact ⟨r0, r1, rest, rfl⟩
          rw [ix_first] at e ef
          injection e with e
          have hm := hW.2
          obtain ⟨hm1, hm2⟩ := List.pairwise_cons.mp hm
          have h01 := hm1 r1 (List.mem_cons_self ..)
          have hv0 := hW.1 r0 (List.mem_cons_self ..)
          have hv1 := hW.1 r1 (List.mem_cons_of_mem _ (List.mem_cons_self ..))
          obtain ⟨a, ea⟩ : ∃ a, a = r0.2 + 1 := ⟨_, rfl⟩
          have wa : inR (r0 :: r1 :: rest) a = false := Bool.eq_false_iff.mpr fun z => by
            obtain ⟨r, hr', z1, z2⟩ := inR_true.mp z
            rcases List.mem_cons.mp hr' with y | y
            · rw [y] at z2; omega
            · have := hm1 r y; omega
          have w1 : inR (r0 :: r1 :: rest) r1.1 = true := inR_true.mpr ⟨r1, List.mem_cons_of_mem _ (List.mem_cons_self ..), Int.le_refl _, hv1.2.1⟩
          have g1 := hr r1.1 w1
          rw [← ea] at e
          subst e
          have a0 : 0 < a := by omega
          have an : a < g := by omega
          refine ⟨fun c hc => ?_, fun c r z => ?_, by simp, ?_⟩
          · have hc' : c = (("click" : Str), a) ∨ c = (("range" : Str), f) ∨ c = (("range" : Str), g) := by simpa using hc
            rcases hc' with y | y | y <;> rw [y]
            · exact ⟨by show 0 ≤ a; omega, by show a < n; omega, .inl rfl⟩
            · exact ⟨f0, by show f < n; omega, .inr rfl⟩
            · exact ⟨by show 0 ≤ g; omega, gn, .inr rfl⟩
          · injection z with z _
            rw [← z]
          · have c1 : ∀ u : StT, Can n u (("click" : Str), a) := fun u => ⟨by show 0 ≤ a; omega, by show a < n; omega, .inl rfl⟩
            have c2 : ∀ u : StT, u.2.2 = some a → Can n u (("range" : Str), f) := fun u h => ⟨f0, by show f < n; omega, .inr ⟨rfl, by rw [h]; rfl⟩⟩
            have c3 : ∀ u : StT, u.2.2 = some a → Can n u (("range" : Str), g) := fun u h => ⟨by show 0 ≤ g; omega, gn, .inr ⟨rfl, by rw [h]; rfl⟩⟩
            have a1 : (nextS (n, l, none) (("click" : Str), a)).2.2 = some a := next_anc (c1 _)
            have b1 : (nextS (n, k, none) (("click" : Str), a)).2.2 = some a := next_anc (c1 _)
            have v1 := next_valid vs (c1 _)
            have u1 := next_valid vt (c1 _)
            have v2 := next_valid v1 (c2 _ a1)
            have u2 := next_valid u1 (c2 _ b1)
            have keep : ∀ (u : StT) (x : Int), u.2.2 = some a → (nextS u (("range" : Str), x)).2.2 = some a := fun u x h => by
              unfold nextS
              rw [if_neg (show ¬ ((("range" : Str), x) : CkT).1 = ("click" : Str) by show ¬ (("range" : Str) = ("click" : Str)); decide)]
              exact h
            have a2 := keep _ f a1
            have b2 := keep _ f b1
            have k1 := agr_click vs vt (c1 _) (c1 _) rfl
            have aa : inR l a = inR k a := eqq wa
            have k2 := agr_range v1 u1 (c2 _ a1) (c2 _ b1) rfl a1 b1 ((k1 a).mpr aa)
            have k3 := agr_range v2 u2 (c3 _ a2) (c3 _ b2) rfl a2 b2 ((k2 a).mpr (.inr ((k1 a).mpr aa)))
            have dg : inR l g ≠ inR k g := ne.mpr hg
            have n0 : l ≠ k := fun z => dg (by rw [z])
            have n1' : (nextS (n, l, none) (("click" : Str), a)).2.1 ≠ (nextS (n, k, none) (("click" : Str), a)).2.1 := ne_at (p := g) fun z => dg ((k1 g).mp z)
            have n2' : (nextS (nextS (n, l, none) (("click" : Str), a)) (("range" : Str), f)).2.1 ≠ (nextS (nextS (n, k, none) (("click" : Str), a)) (("range" : Str), f)).2.1 := ne_at (p := g) fun z => by
              rcases (k2 g).mp z with y | y
              · have y1 : g ≤ max a f := y.2
                omega
              · exact dg ((k1 g).mp y)
            have n3' := eq_all (next_valid v2 (c3 _ a2)) (next_valid u2 (c3 _ b2)) fun p p0 p1 => (k3 p).mpr (by
              by_cases z : a ≤ p
              · refine .inl ⟨?_, ?_⟩
                · show min a g ≤ p; omega
                · show p ≤ max a g; omega
              · refine .inr ((k2 p).mpr (.inl ⟨?_, ?_⟩))
                · show min a f ≤ p; omega
                · show p ≤ max a f; omega)
            show (if l = k then _ else (if _ then _ else (if _ then _ else (if _ then _ else _)))) = _
            rw [if_neg n0, if_neg n1', if_neg n2', if_pos n3']
            rfl
end Sx

/-! Numbers as texts, words put together, what is shown. No program in sight. -/
namespace Wd
open PySem PySem.Spec PyProof PyProof.Rows L2 Dx
/-! ### what is shown -/
theorem list_len : ∀ ts : List Str, (listText ts).length ≤ piled ts + 2
  | [] => by decide
  | t :: r => by
    have h := textFrom_length_pos r 1 (("[" : Str) ++ (if (0 : Nat) > 0 then ", " else "" : String) ++ t) (Nat.succ_pos 0)
    have e : ((("[" : Str) ++ (if (0 : Nat) > 0 then ", " else "" : String) ++ t)).length = 1 + t.length := by rw [strLen_append, strLen_append]; rfl
    have hX : (listText (t :: r)).length = (textFrom 1 (("[" : Str) ++ (if (0 : Nat) > 0 then ", " else "" : String) ++ t) r).length + 1 := by show (textFrom 0 "[" (t :: r) ++ "]").length = _; rw [strLen_append]; rfl
    rw [hX, h, e, piled_cons]; omega
theorem tup_len (ts : List Str) : (tupleText ts).length ≤ piled ts + 3 := by
  unfold tupleText
  rw [strLen_append, strLen_append]
  have e1 : ((("(" : String) : Str)).length = 1 := rfl
  have e3 : (((if ts.length == 1 then ",)" else ")" : String) : Str)).length ≤ 2 := by split <;> decide
  cases ts with
  | nil => have : (Str.join ", " []).length = 0 := rfl; rw [e1, this]; omega
  | cons t r => have := join_length_add (t :: r) (by simp); rw [e1]; omega
theorem piled_le {B : Nat} : ∀ {ts : List Str}, (∀ t ∈ ts, t.length ≤ B) → piled ts ≤ ts.length * (B + 2)
  | [], _ => Nat.zero_le _
  | t :: r, h => by
    have h1 := h t (List.mem_cons_self ..)
    have h2 := piled_le (ts := r) fun x hx => h x (List.mem_cons_of_mem _ hx)
    rw [piled_cons, List.length_cons, Nat.succ_mul]
    omega
theorem all_len (ds : List PyData) : (PyData.shownAll ds).length = ds.length := by
  induction ds with
  | nil => rfl
  | cons d ds ih => show (PyData.shownAll ds).length + 1 = _; rw [ih]; rfl
theorem all_mem {P : Str → Prop} : ∀ {ds : List PyData}, (∀ d ∈ ds, P d.shown) → ∀ t ∈ PyData.shownAll ds, P t
  | [], _, t, h => by cases h
  | d :: ds, hp, t, h => by
    have h' : t ∈ d.shown :: PyData.shownAll ds := h
    rcases List.mem_cons.mp h' with e | e
    · rw [e]; exact hp d (List.mem_cons_self ..)
    · exact all_mem (fun x hx => hp x (List.mem_cons_of_mem _ hx)) t e
theorem all_show : ∀ {ds : List PyData}, (∀ d ∈ ds, d.showable = true) → PyData.showableAll ds = true
  | [], _ => rfl
  | d :: ds, h => by
    show (d.showable && PyData.showableAll ds) = true
    rw [h d (List.mem_cons_self ..), all_show fun x hx => h x (List.mem_cons_of_mem _ hx)]; rfl
theorem log_lt {n k : Nat} (h : n < 2 ^ k) (hk : 0 < k) : n.log2 < k := by
  by_cases e : n = 0
  · subst e
    simpa using hk
  · exact (Nat.log2_lt e).mpr h
theorem log_num {v : Int} (h0 : 0 ≤ v) (h1 : v ≤ 1000000000000000000000000000000) : v.natAbs.log2 < 1920 := by
  have h1 : v.natAbs < 2 ^ 100 := by
    have e : ((2 ^ 100 : Nat) : Int) = (2 : Int) ^ 100 := by decide
    have : (1000000000000000000000000000000 : Int) < 2 ^ 100 := by decide
    omega
  have := log_lt h1 (by decide)
  omega
theorem int_show {v : Int} (h0 : 0 ≤ v) (h1 : v ≤ 1000000000000000000000000000000) : (PyData.int v).showable = true ∧ (PyData.int v).shown.length ≤ 1921 :=
  ⟨decide_eq_true (log_num h0 h1), int_text_len_1921 (log_num h0 h1)⟩
/-- two shown things, in a tuple -/
theorem tup2_show {a b : PyData} {B : Nat} (ha : a.showable = true ∧ a.shown.length ≤ B) (hb : b.showable = true ∧ b.shown.length ≤ B) : (PyData.tuple [a, b]).showable = true ∧ (PyData.tuple [a, b]).shown.length ≤ 2 * B + 7 := by
  refine ⟨all_show fun d hd => ?_, ?_⟩
  · simp at hd
    rcases hd with e | e <;> rw [e]
    · exact ha.1
    · exact hb.1
  · show (tupleText [a.shown, b.shown]).length ≤ _
    have := tup_len [a.shown, b.shown]
    rw [piled_cons, piled_cons, piled_nil] at this
    omega
theorem list_show {α : Type} {d : DF α} {l : List α} (h : ∀ x ∈ l, (d.toD x).showable = true ∧ (d.toD x).shown.length ≤ 4000) (hl : l.length ≤ 1000) : ShowOk (dfList d) l := by
  refine ⟨all_show fun e he => ?_, ?_⟩
  · obtain ⟨r, hr, e⟩ := List.mem_map.mp (show e ∈ l.map d.toD from he)
    rw [← e]; exact (h r hr).1
  · show (listText (PyData.shownAll (l.map d.toD))).length ≤ sizeLine
    have h1 := list_len (PyData.shownAll (l.map d.toD))
    have h2 := piled_le (B := 4000) (all_mem (P := fun t => t.length ≤ 4000) (ds := l.map d.toD) fun e he => by
      obtain ⟨r, hr, e⟩ := List.mem_map.mp he
      rw [← e]; exact (h r hr).2)
    rw [all_len, List.length_map] at h2
    have h3 : l.length * (4000 + 2) ≤ 1000 * 4002 := Nat.mul_le_mul_right _ hl
    have := sizeLine_eq
    omega
/-! ### numbers -/
abbrev num (v : Int) : Str := Str.ofString (toString v)
theorem num_tl {v : Int} (h0 : 0 ≤ v) : TL.tl (num v) = TL.numL v.toNat := by
  have : v = ((v.toNat : Nat) : Int) := (Int.toNat_of_nonneg h0).symm
  rw [show num v = Str.ofString (toString ((v.toNat : Nat) : Int)) by rw [← this]]
  exact TL.tl_num _
theorem num_len {v : Int} (h0 : 0 ≤ v) (h1 : v ≤ 1000000000000000000000000000000) : 1 ≤ (num v).length ∧ (num v).length ≤ 31 := by
  rw [TL.len_tl, num_tl h0]
  exact ⟨List.length_pos_iff.mpr (TL.numL_ne _), TL.numL_len (by decide) (Nat.lt_of_le_of_lt (show v.toNat ≤ 1000000000000000000000000000000 by omega) (by decide))⟩
theorem num_free {v : Int} {s : Nat} (h0 : 0 ≤ v) (h : s < 48 ∨ 57 < s) : s ∉ TL.tl (num v) := by
  rw [num_tl h0]
  exact TL.numL_free h
theorem numL_dig {n c : Nat} (h : c ∈ TL.numL n) : 48 ≤ c ∧ c ≤ 57 := by
  by_cases z : c < 48 ∨ 57 < c
  · exact absurd h (TL.numL_free z)
  · omega
theorem num_digits {v : Int} (h0 : 0 ≤ v) : ∀ c ∈ charsS (num v), (Dx.leS ("0" : Str) c && Dx.leS c ("9" : Str)) = true := fun c hc => by
  obtain ⟨d, hd, e⟩ := List.mem_map.mp hc
  rw [show (num v).cps.toList = TL.numL v.toNat from num_tl h0] at hd
  obtain ⟨h1, h2⟩ := numL_dig hd
  subst e
  unfold Dx.leS
  rw [Bool.and_eq_true]
  have e0 : (("0" : Str)).cps.toList = [48] := by decide
  have e9 : (("9" : Str)).cps.toList = [57] := by decide
  rw [e0, e9]
  have n1 : ¬ ([d] < [48]) := fun h => by
    rcases List.cons_lt_cons_iff.mp h with h | h
    · omega
    · exact absurd h.2 (by simp)
  have n2 : ¬ ([57] < [d]) := fun h => by
    rcases List.cons_lt_cons_iff.mp h with h | h
    · omega
    · exact absurd h.2 (by simp)
  constructor
  · show (!decide ([d] < [48])) = true
    rw [decide_eq_false n1]; rfl
  · show (!decide ([57] < [d])) = true
    rw [decide_eq_false n2]; rfl
theorem numL_head : ∀ (n : Nat), 0 < n → ∃ c r, TL.numL n = c :: r ∧ c ≠ 48 := by
  intro n
  induction n using Nat.strongRecOn with
  | ind n ih =>
    intro hn
    by_cases h : n < 10
    · exact ⟨48 + n, [], TL.numL_lt h, by omega⟩
    · obtain ⟨c, r, e, hc⟩ := ih (n / 10) (by omega) (by omega)
      exact ⟨c, r ++ [48 + n % 10], by rw [TL.numL_step (by omega), e]; rfl, hc⟩
theorem num_head {v : Int} (h0 : 0 ≤ v) : ((dfStr).eq (chS (num v) (0 : Int)) ("0" : Str) && (!(dfStr).eq (num v) ("0" : Str))) = false := by
  by_cases z : v = 0
  · subst z
    have e : num 0 = ("0" : Str) := by decide
    rw [e]
    have : (dfStr).eq ("0" : Str) ("0" : Str) = true := decide_eq_true rfl
    rw [this]
    cases (dfStr).eq (chS ("0" : Str) (0 : Int)) ("0" : Str) <;> rfl
  · obtain ⟨c, r, e, hc⟩ := numL_head v.toNat (by omega)
    rw [← num_tl h0] at e
    have e1 : chS (num v) (0 : Int) = ⟨#[c]⟩ := by
      unfold chS charsS
      rw [show (num v).cps.toList = c :: r from e]
      rfl
    have e2 : (dfStr).eq (chS (num v) (0 : Int)) ("0" : Str) = false := by
      refine decide_eq_false fun h => hc ?_
      rw [e1] at h
      have := congrArg TL.tl h
      have e0 : TL.tl ("0" : Str) = [48] := by decide
      rw [e0] at this
      injection this
    rw [e2]; rfl
theorem num_ix {v : Int} (h0 : 0 ≤ v) (h1 : v ≤ 1000000000000000000000000000000) : IxOk (charsS (num v)) (0 : Int) := by
  have := (num_len h0 h1).1
  have e := charsS_len (num v)
  exact ⟨by omega, by omega⟩
theorem num_int {v : Int} (h0 : 0 ≤ v) (h1 : v ≤ 1000000000000000000000000000000) : PySem.intText? (num v) = some v := by
  have hv : v = ((v.toNat : Nat) : Int) := (Int.toNat_of_nonneg h0).symm
  have hl := (num_len h0 h1).2
  rw [TL.len_tl, num_tl h0] at hl
  have := TL.int_num (n := v.toNat) (by omega)
  rw [← hv] at this
  exact this
theorem num_intOf {v : Int} (h0 : 0 ≤ v) (h1 : v ≤ 1000000000000000000000000000000) : intOf (num v) = v := by unfold intOf; rw [num_int h0 h1]; rfl
/-! ### heads -/
theorem starts_iff {x : Str} {s : Nat} : Txt.startswith x ⟨#[s]⟩ = true ↔ ∃ r, TL.tl x = s :: r := by
  unfold Txt.startswith
  rw [Bool.and_eq_true, PySem.StrLaws.subAt_eq]
  have hl := TL.len_tl x
  have e1 : ((⟨#[s]⟩ : Str)).length = 1 := rfl
  have e2 : ((⟨#[s]⟩ : Str)).cps.toList = [s] := rfl
  rw [e1, e2, decide_eq_true_eq]
  show _ ∧ (((TL.tl x).drop 0).take 1 == [s]) = true ↔ _
  rw [List.drop_zero, beq_iff_eq]
  generalize TL.tl x = l at hl
  cases l with
  | nil => simp
  | cons c r =>
    constructor
    · rintro ⟨_, h⟩
      have h' : [c] = [s] := h
      injection h' with h'
      exact ⟨r, by rw [h']⟩
    · rintro ⟨r', h⟩
      injection h with h1 h2
      rw [h1]
      exact ⟨by rw [hl, List.length_cons]; omega, rfl⟩
theorem starts_app (s : Nat) (x : Str) : Txt.startswith ((⟨#[s]⟩ : Str) ++ x) ⟨#[s]⟩ = true := starts_iff.mpr ⟨TL.tl x, by rw [TL.tl_append]; rfl⟩
theorem starts_num {v : Int} {s : Nat} (h0 : 0 ≤ v) (h : s < 48 ∨ 57 < s) : Txt.startswith (num v) ⟨#[s]⟩ = false := by
  cases e : Txt.startswith (num v) ⟨#[s]⟩ with
  | false => rfl
  | true =>
    obtain ⟨r, e⟩ := starts_iff.mp e
    exact absurd (by rw [e]; exact List.mem_cons_self ..) (num_free h0 h)
theorem cut_app (s : Nat) (x : Str) : cutT ((⟨#[s]⟩ : Str) ++ x) (some (1 : Int)) none = x := by
  apply TL.ext_tl
  show ((TL.tl ((⟨#[s]⟩ : Str) ++ x)).drop (HT.sIx ((⟨#[s]⟩ : Str) ++ x).length 0 (some ((1 : Nat) : Int)))).take (HT.sIx ((⟨#[s]⟩ : Str) ++ x).length ((⟨#[s]⟩ : Str) ++ x).length none - HT.sIx ((⟨#[s]⟩ : Str) ++ x).length 0 (some ((1 : Nat) : Int))) = _
  have hl : ((⟨#[s]⟩ : Str) ++ x).length = x.length + 1 := by rw [strLen_append]; show 1 + _ = _; omega
  rw [HT.sIx_nat, HT.sIx_none, hl, TL.tl_append, show min 1 (x.length + 1) = 1 by omega]
  show (TL.tl x).take (x.length + 1 - 1) = _
  rw [TL.len_tl]
  exact List.take_of_length_le (by omega)
/-! ### words put together -/
theorem join_len {y : Str} {B : Nat} : ∀ {ps : List Str}, (∀ p ∈ ps, p.length ≤ B) → (Txt.join y ps).length ≤ ps.length * (B + y.length)
  | [], _ => by rw [TL.join_eq]; exact Nat.zero_le _
  | [p], h => by
    rw [TL.join_eq]
    show p.length ≤ _
    have := h p (List.mem_cons_self ..)
    simp
    omega
  | p :: q :: r, h => by
    have h1 := h p (List.mem_cons_self ..)
    have h2 := join_len (y := y) (ps := q :: r) fun x hx => h x (List.mem_cons_of_mem _ hx)
    rw [TL.join_eq] at h2 ⊢
    show (p ++ y ++ Str.join y (q :: r)).length ≤ _
    rw [strLen_append, strLen_append, List.length_cons, Nat.succ_mul]
    omega
theorem sum_len {B : Nat} : ∀ {ps : List Str}, (∀ p ∈ ps, p.length ≤ B) → (ps.map (·.length)).sum ≤ ps.length * B
  | [], _ => Nat.zero_le _
  | p :: r, h => by
    have h1 := h p (List.mem_cons_self ..)
    have h2 := sum_len (ps := r) fun x hx => h x (List.mem_cons_of_mem _ hx)
    rw [List.map_cons, List.sum_cons, List.length_cons, Nat.succ_mul]
    omega
theorem join_nil (y : Str) : Txt.join y [] = Str.empty := by rw [TL.join_eq]; rfl
theorem join_ne {y : Str} {ps : List Str} (h : ps ≠ []) (hp : ∀ p ∈ ps, 1 ≤ p.length) : Txt.join y ps ≠ Str.empty := by
  intro e
  rw [TL.join_eq] at e
  have e2 : (Str.join y ps).length = 0 := by rw [e]; rfl
  match ps, h with
  | [p], _ =>
    have : p.length = 0 := e2
    have := hp p (List.mem_cons_self ..)
    omega
  | p :: q :: r, _ =>
    have e3 : (p ++ y ++ Str.join y (q :: r)).length = 0 := e2
    rw [strLen_append, strLen_append] at e3
    have := hp p (List.mem_cons_self ..)
    omega
theorem free_app {x y : Str} {s : Nat} (hx : s ∉ TL.tl x) (hy : s ∉ TL.tl y) : s ∉ TL.tl (x ++ y) := by
  rw [TL.tl_append]
  intro h
  rcases List.mem_append.mp h with h | h
  · exact hx h
  · exact hy h
/-- split of what was joined with one sign -/
theorem back {s : Nat} (hs : s < 256) {ps : List Str} (hne : ps ≠ []) (hp : ∀ p ∈ ps, s ∉ TL.tl p) : Txt.split (Txt.join (⟨#[s]⟩ : Str) ps) ⟨#[s]⟩ = ps :=
  TL.split_join (y := ⟨#[s]⟩) (S := []) rfl (by simp [hs]) hne hp
end Wd

namespace Lw
open PySem PySem.Spec PyProof PyProof.Rows L2 Dx
section
theorem bord_loop {s : mborders_in_S} : ∀ (l : List (Int × Int)) (m : List Int), m.length + 2 * l.length ≤ 100000 → loopC (fun m x => mborders_in_L2c ((s, m), x)) (fun m x => mborders_in_L2s ((s, m), x)) l m ∧ loopF (fun m x => mborders_in_L2s ((s, m), x)) l m = m ++ Sx.bords l
  | [], m, _ => ⟨trivial, by simp [loopF, Sx.bords]⟩
  | r :: l, m, h => by
    have e : mborders_in_L2s ((s, m), r) = m ++ [r.1, r.2 + 1] := rfl
    simp only [List.length_cons] at h
    obtain ⟨h1, h2⟩ := bord_loop (s := s) l (m ++ [r.1, r.2 + 1]) (by simp; omega)
    refine ⟨⟨⟨?_, trivial⟩, h1⟩, ?_⟩
    · show m.length + 2 ≤ sizeLine
      have := line_big
      omega
    · show loopF (fun m x => mborders_in_L2s ((s, m), x)) l (mborders_in_L2s ((s, m), r)) = _
      rw [e, h2]
      simp [Sx.bords]
theorem bord_ok {l : List (Int × Int)} (h : l.length ≤ 1000) : mborders_in_p (l, ()) ∧ mborders_in (l, ()) = Sx.bords l := by
  obtain ⟨h1, h2⟩ := bord_loop (s := (l, ())) l [] (by simp; omega)
  refine ⟨⟨h1, trivial⟩, ?_⟩
  unfold mborders_in
  rw [hide_eq]
  unfold mborders_in_L2
  rw [LoopF_eq]
  exact h2
theorem insK_mem {ks : List Int} {k x : Int} : x ∈ insK ks k ↔ x ∈ ks ∨ x = k := by
  unfold insK
  split
  · rename_i h
    exact ⟨.inl, fun z => z.elim id fun e => by rw [e]; exact h⟩
  · rw [List.mem_append, List.mem_singleton]
theorem foldl_insK {x : Int} : ∀ (xs acc : List Int), x ∈ xs.foldl insK acc ↔ x ∈ acc ∨ x ∈ xs
  | [], acc => by simp
  | y :: xs, acc => by
    rw [List.foldl_cons, foldl_insK xs, insK_mem, List.mem_cons, or_assoc]
theorem dcV_mem_id {xs : List Int} {x : Int} : x ∈ dcV xs (fun _ => true) (fun x => x) ↔ x ∈ xs := by
  unfold dcV
  rw [List.map_id', List.filter_eq_self.mpr (fun _ _ => rfl), foldl_insK]
  simp
theorem filter_same {xs ys zs : List Int} (h : ∀ x, x ∈ ys ↔ x ∈ zs) : (xs.filter fun x => !decide (x ∈ ys)) = xs.filter fun x => !decide (x ∈ zs) :=
  List.filter_congr fun x _ => by rw [decide_eq_decide.mpr (h x)]
theorem lcV_t {α β : Type} (xs : List α) (f : α → β) : lcV xs (fun _ => true) f = xs.map f := by
  unfold lcV
  rw [List.filter_eq_self.mpr fun _ _ => rfl]
theorem from_ok (bs : List Int) : mfrom_borders_p (bs, ()) ∧ mfrom_borders (bs, ()) = Sx.fromB bs := by
  refine ⟨⟨fun _ _ => ⟨trivial, fun _ => trivial⟩, trivial⟩, ?_⟩
  unfold mfrom_borders
  rw [hide_eq, lcV_t, Sx.step2a, Sx.step2b]
  exact Sx.fromB_zip bs
theorem lcV_f {α : Type} (xs : List α) (p : α → Bool) : lcV xs p (fun x => x) = xs.filter p := by
  unfold lcV
  rw [List.map_id']
/-- the borders at which two lists of borders differ -/
def xorB (A B : List Int) : List Int := sortI ((A.filter fun x => !decide (x ∈ B)) ++ B.filter fun x => !decide (x ∈ A))
theorem diff_ok {A B : List Int} (hl : A.length + B.length ≤ 10000) : mdiffering_runs_p (A, B, ()) ∧ mdiffering_runs (A, B, ()) = Sx.fromB (xorB A B) := by
  have e1 : ∀ x, x ∈ mdiffering_runs_v_known_1 (A, B, ()) ↔ x ∈ B := fun x => dcV_mem_id
  have e2 : ∀ x, x ∈ mdiffering_runs_v_own_2 (A, B, ()) ↔ x ∈ A := fun x => dcV_mem_id
  have e3 : mdiffering_runs_v_found_3 (A, B, ()) = A.filter fun x => !decide (x ∈ B) := by
    unfold mdiffering_runs_v_found_3
    rw [lcV_f]
    exact filter_same e1
  have e4 : (lcV B (fun x => (!decide (x ∈ mdiffering_runs_v_own_2 (A, B, ())))) (fun x => x)) = B.filter fun x => !decide (x ∈ A) := by
    rw [lcV_f]
    exact filter_same e2
  have h1 := List.length_filter_le (fun x => !decide (x ∈ B)) A
  have h2 := List.length_filter_le (fun x => !decide (x ∈ A)) B
  have big := line_big
  refine ⟨⟨fun _ _ => ⟨trivial, fun _ => ⟨trivial, trivial⟩⟩, fun _ _ => ⟨trivial, fun _ => ⟨trivial, trivial⟩⟩, fun _ _ => ⟨trivial, fun _ => trivial⟩, fun _ _ => ⟨trivial, fun _ => trivial⟩, ?_, (from_ok _).1, trivial⟩, ?_⟩
  · show (mdiffering_runs_v_found_3 (A, B, ())).length + (lcV B (fun x => (!decide (x ∈ mdiffering_runs_v_own_2 (A, B, ())))) (fun x => x)).length ≤ sizeLine
    rw [e3, e4]
    omega
  · unfold mdiffering_runs
    rw [hide_eq]
    unfold mdiffering_runs_c4
    rw [(from_ok _).2]
    show Sx.fromB (sortI (mdiffering_runs_v_found_3 (A, B, ()) ++ (lcV B (fun x => (!decide (x ∈ mdiffering_runs_v_own_2 (A, B, ())))) (fun x => x)))) = _
    rw [e3, e4]
    rfl
theorem ix_zero {l : List (Int × Int)} (h : l ≠ []) : IxOk l 0 := by
  cases l with
  | nil => exact absurd rfl h
  | cons r l => exact ⟨by simp; omega, by simp⟩
theorem xorB_asc {A B : List Int} (ha : A.Nodup) (hb : B.Nodup) : Sx.Asc (xorB A B) := by
  refine Sx.sortI_asc (Sx.nodup_app (ha.sublist List.filter_sublist) (hb.sublist List.filter_sublist) fun x h1 h2 => ?_)
  have h1 := (List.mem_filter.mp h1).1
  have h2 := (List.mem_filter.mp h2).2
  simp only [Bool.not_eq_true', decide_eq_false_iff_not] at h2
  exact h2 h1
theorem xorB_mem {A B : List Int} {x : Int} : x ∈ xorB A B ↔ ¬ (x ∈ A ↔ x ∈ B) := by
  unfold xorB
  rw [(sortI_perm _).mem_iff, List.mem_append, List.mem_filter, List.mem_filter]
  simp only [Bool.not_eq_true', decide_eq_false_iff_not]
  by_cases a : x ∈ A <;> by_cases b : x ∈ B <;> simp [a, b]
theorem xorB_diff {A B : List Int} (ha : A.Nodup) (hb : B.Nodup) : xorB A B = Sx.diffB A B :=
  Sx.asc_ext (xorB_asc ha hb) Sx.diffB_asc fun x => by rw [xorB_mem, Sx.diffB_mem ha hb]
theorem runs_of {n : Int} {l k : List (Int × Int)} (hl : Sx.Sel n l) (hk : Sx.Sel n k) : Sx.fromB (xorB (Sx.bords l) (Sx.bords k)) = Sx.diffS l k := by
  rw [xorB_diff (Sx.asc_nodup hl.asc) (Sx.asc_nodup hk.asc)]; rfl
theorem meet_O {n : Int} {l k : List (Int × Int)} (hl : Sx.Sel n l) (hk : Sx.Sel n k) (ll : l.length ≤ 1000) (lk : k.length ≤ 1000) : mclicks_to_meet_p (n, l, k, ()) ∧ mclicks_to_meet (n, l, k, ()) = Sx.meetC n (Sx.diffS l k) := by
  obtain ⟨s, es⟩ : ∃ s : mclicks_to_meet_S, s = (n, l, k, ()) := ⟨_, rfl⟩
  rw [← es]
  have s1 : s.1 = n := by rw [es]
  have s2 : s.2.1 = l := by rw [es]
  have s3 : s.2.2.1 = k := by rw [es]
  obtain ⟨b1, b2⟩ := bord_ok ll
  obtain ⟨b3, b4⟩ := bord_ok lk
  obtain ⟨d1, d2⟩ := diff_ok (A := Sx.bords l) (B := Sx.bords k) (by rw [Sx.bords_len, Sx.bords_len]; omega)
  have e1 : mclicks_to_meet_c1 s = Sx.bords l := by unfold mclicks_to_meet_c1; rw [s2]; exact b2
  have e2 : mclicks_to_meet_c2 s = Sx.bords k := by unfold mclicks_to_meet_c2; rw [s3]; exact b4
  have e3 : mclicks_to_meet_c3 s = Sx.diffS l k := by unfold mclicks_to_meet_c3; rw [e1, e2, d2, runs_of hl hk]
  have e4 : mclicks_to_meet_v_first_4 s = (ixI ((0 : Int), (0 : Int)) (Sx.diffS l k) 0).1 := by unfold mclicks_to_meet_v_first_4; rw [e3]
  have e5 : mclicks_to_meet_v_last_5 s = (ixI ((0 : Int), (0 : Int)) (Sx.diffS l k) (-1)).2 := by unfold mclicks_to_meet_v_last_5; rw [e3]
  refine ⟨⟨?_, ?_, ?_, ?_, trivial⟩, ?_⟩
  · show mborders_in_p (s.2.1, ())
    rw [s2]; exact b1
  · show mborders_in_p (s.2.2.1, ())
    rw [s3]; exact b3
  · show mdiffering_runs_p (mclicks_to_meet_c1 s, mclicks_to_meet_c2 s, ())
    rw [e1, e2]; exact d1
  · show if (((dfList (dfT2 dfInt dfInt))).eq (mclicks_to_meet_c3 s) ([] : List (Int × Int))) = true then _ else _
    split
    · trivial
    · rename_i hne
      have hne' : mclicks_to_meet_c3 s ≠ [] := fun z => hne (df_t.mpr z)
      refine ⟨ix_zero hne', ixOk_last hne', ?_, trivial⟩
      show if _ then _ else _
      split
      · trivial
      · refine ⟨?_, trivial⟩
        show if _ then _ else _
        split
        · trivial
        · refine ⟨?_, trivial⟩
          show if _ then _ else _
          split
          · trivial
          · exact ⟨ix_zero hne', trivial⟩
  · unfold mclicks_to_meet Sx.meetC
    rw [hide_eq, e3, e4, e5, s1]
    by_cases h0 : Sx.diffS l k = []
    · rw [if_pos (df_t.mpr h0), if_pos h0]
    · rw [if_neg (fun z => h0 (df_t.mp z)), if_neg h0]
      by_cases h1 : 0 < (ixI ((0 : Int), (0 : Int)) (Sx.diffS l k) 0).1
      · rw [if_pos (decide_eq_true h1), if_pos h1]
      · rw [if_neg (fun z => h1 (of_decide_eq_true z)), if_neg h1]
        by_cases h2 : (ixI ((0 : Int), (0 : Int)) (Sx.diffS l k) (-1)).2 < n - 1
        · rw [if_pos (decide_eq_true h2), if_pos h2]
        · rw [if_neg (fun z => h2 (of_decide_eq_true z)), if_neg h2]
          by_cases h3 : ((Sx.diffS l k).length : Int) = 1
          · rw [if_pos (df_t.mpr h3), if_pos h3]
          · rw [if_neg (fun z => h3 (df_t.mp z)), if_neg h3]
theorem isint {v lo hi : Int} : mis_integer (v, lo, hi, ()) = true ↔ lo ≤ v ∧ v ≤ hi := by
  unfold mis_integer
  rw [hide_eq]
  show (true && ((!false) && (decide (lo ≤ v) && decide (v ≤ hi)))) = true ↔ _
  simp
theorem chk_items {z : Int} (hz : 1 ≤ z) (hz2 : z ≤ 1000000000000000000000000000000) : mcheck_items_p (z, ()) := by
  have e1 : mcheck_items_c1 (z, ()) = true := isint.mpr ⟨hz, hz2⟩
  refine ⟨trivial, fun q => ?_, trivial⟩
  rw [e1] at q; exact absurd q (by decide)
theorem cut_one {α : Type} (xs : List α) : cutL xs (some 1) none = xs.drop 1 := by
  unfold cutL
  rw [show HT.sIx xs.length 0 (some 1) = min 1 xs.length from HT.sIx_nat xs.length 0 1, HT.sIx_none]
  cases xs with
  | nil => rfl
  | cons x r =>
    rw [show min 1 (x :: r).length = 1 by simp]
    exact List.take_of_length_le (by simp)
theorem isrun {z : Int} {r : Int × Int} (h : 0 ≤ r.1 ∧ r.1 ≤ r.2 ∧ r.2 < z) : mis_run_p (z, r, ()) ∧ mis_run (z, r, ()) = true := by
  have h1 : mis_run_c1 (z, r, ()) = true := isint.mpr ⟨h.1, by show r.1 ≤ z - 1; omega⟩
  have h2 : mis_run_c2 (z, r, ()) = true := isint.mpr ⟨h.2.1, by show r.2 ≤ z - 1; omega⟩
  refine ⟨⟨fun _ _ => trivial, ?_, trivial⟩, ?_⟩
  · show if _ then _ else _
    split
    · trivial
    · exact ⟨trivial, trivial⟩
  · unfold mis_run
    rw [hide_eq, h1, h2]
    rfl
theorem zip_next {α : Type} {R : α → α → Prop} : ∀ {l : List α}, l.Pairwise R → ∀ p ∈ List.zip l (l.drop 1), R p.1 p.2
  | [], _, p, h => by simp at h
  | [x], _, p, h => by simp at h
  | x :: y :: r, hp, p, h => by
    obtain ⟨h1, h2⟩ := List.pairwise_cons.mp hp
    have h' : p ∈ (x, y) :: List.zip (y :: r) ((y :: r).drop 1) := h
    rcases List.mem_cons.mp h' with e | e
    · rw [e]; exact h1 y (List.mem_cons_self ..)
    · exact zip_next h2 p e
theorem areruns {z : Int} {l : List (Int × Int)} (h : Sel z l) : mare_runs_p (z, l, ()) ∧ mare_runs (z, l, ()) = true := by
  refine ⟨⟨fun _ r hr => ⟨trivial, fun _ => ⟨(isrun (h.1 r hr)).1, trivial⟩⟩, ?_, trivial⟩, ?_⟩
  · show if _ then _ else _
    split
    · trivial
    · exact ⟨fun _ _ => ⟨trivial, fun _ => trivial⟩, trivial⟩
  · unfold mare_runs
    rw [hide_eq]
    have h1 : (lcV l (fun x => true) fun x => mare_runs_c1 ((z, l, ()), x)).all id = true := by
      rw [lcV_t]
      simp only [List.all_map, List.all_eq_true]
      exact fun r hr => (isrun (h.1 r hr)).2
    have h2 : (lcV (List.zip l (cutL l (some 1) none)) (fun x => true) fun x => decide (x.1.2 + 1 < x.2.1)).all id = true := by
      rw [lcV_t, cut_one]
      simp only [List.all_map, List.all_eq_true]
      exact fun p hp => decide_eq_true (zip_next h.2 p hp)
    show (if ((!true) || !((lcV l (fun x => true) fun x => mare_runs_c1 ((z, l, ()), x)).all id)) = true then false else (lcV (List.zip l (cutL l (some 1) none)) (fun x => true) fun x => decide (x.1.2 + 1 < x.2.1)).all id) = true
    rw [h1, h2]
    rfl
theorem chk_sel {n : Int} {l : List (Int × Int)} (h : Sx.Sel n l) : mcheck_selection_p (n, l, ()) := by
  obtain ⟨a, b⟩ := areruns (z := n) (l := l) h
  refine ⟨a, fun q => ?_, trivial⟩
  have q' : (!(mare_runs (n, l, ()))) = true := q
  rw [b] at q'; cases q'
theorem both_ok {n : Int} {l k : List (Int × Int)} (n1 : 1 ≤ n) (n2 : n ≤ 1000000000000000000000000000000) (hl : Sx.Sel n l) (hk : Sx.Sel n k) : mcheck_both_p (n, l, k, ()) := ⟨chk_items n1 n2, chk_sel hl, chk_sel hk, trivial⟩
def ancs (n : Nat) : List (Option Int) := none :: (rangeL n).map some
theorem mem_ancs {n : Nat} {a : Option Int} (h : ∀ x, a = some x → 0 ≤ x ∧ x < n) : a ∈ ancs n := by
  cases a with
  | none => exact List.mem_cons_self ..
  | some x => exact List.mem_cons_of_mem _ (List.mem_map.mpr ⟨x, mem_range.mpr (h x rfl), rfl⟩)
def allB : Nat → List (List Bool)
  | 0 => [[]]
  | n + 1 => (allB n).flatMap fun l => [false :: l, true :: l]
theorem mem_allB : ∀ ms : List Bool, ms ∈ allB ms.length
  | [] => by simp [allB]
  | b :: ms => List.mem_flatMap.mpr ⟨ms, mem_allB ms, by cases b <;> simp⟩
def runsOf (ms : List Bool) : List (Int × Int) := m_law_runs ((rangeL ms.length).map (fun x => (x, x)), ms, ())
theorem runs_fin : ∀ n ∈ [1, 2, 3, 4], ∀ ms ∈ allB n, ((∀ r ∈ runsOf ms, 0 ≤ r.1 ∧ r.1 ≤ r.2 ∧ r.2 < (ms.length : Int)) ∧ (runsOf ms).Pairwise fun a b => a.2 + 1 < b.1) ∧ ∀ p ∈ rangeL ms.length, Sx.inR (runsOf ms) p = ixI false ms p := by
  decide +kernel
theorem mem14 {n : Nat} (h0 : 1 ≤ n) (h1 : n ≤ 4) : n ∈ [1, 2, 3, 4] := by
  simp only [List.mem_cons, List.not_mem_nil, or_false]
  omega
theorem runs_sel {ms : List Bool} (h0 : 1 ≤ ms.length) (h1 : ms.length ≤ 4) : Sx.Sel (ms.length : Int) (runsOf ms) ∧ ∀ p, 0 ≤ p → p < (ms.length : Int) → Sx.inR (runsOf ms) p = ixI false ms p := by
  obtain ⟨a, b⟩ := runs_fin ms.length (mem14 h0 h1) ms (mem_allB ms)
  exact ⟨a, fun p p0 p1 => b p (mem_range.mpr ⟨p0, p1⟩)⟩
theorem ix_in {n : Nat} {ms : List Bool} {i : Int} (h : ms.length = n) (h0 : 0 ≤ i) (h1 : i < n) : IxOk ms i := by
  unfold IxOk
  omega
theorem runs_pre {n : Nat} (n1 : n ≤ 100) {ms : List Bool} (h : ms.length = n) : m_law_runs_p ((rangeL ms.length).map (fun x => (x, x)), ms, ()) := by
  obtain ⟨s, es⟩ : ∃ s : m_law_runs_S, s = ((rangeL ms.length).map (fun x => (x, x)), ms, ()) := ⟨_, rfl⟩
  rw [← es]
  have s2 : s.2.1 = ms := by rw [es]
  have big := line_big
  have hxs : (m_law_runs_L2x s).length = n := by
    rw [es]
    show (enumL ((rangeL (ms.length : Int)).map (fun x => (x, x)))).length = n
    rw [enumL_length, List.length_map, rangeL_len, h]; omega
  have pos : ∀ (j : Nat) (x : Int × (Int × Int)), (m_law_runs_L2x s)[j]? = some x → x.1 = (j : Int) := fun j x e => by
    obtain ⟨y, _, e2⟩ := enumL_get _ j x (show (enumL s.1)[j]? = some x from e)
    rw [e2]
  refine ⟨?_, trivial⟩
  have main : ∀ (xs : List (Int × (Int × Int))) (k : Nat) (m : m_law_runs_L2M), (∀ (j : Nat) (x : Int × (Int × Int)), xs[j]? = some x → x.1 = ((k + j : Nat) : Int)) → k + xs.length = n → m.length ≤ k → (0 < k → ixI false ms ((k : Int) - 1) = true → m ≠ []) → loopC (fun m x => m_law_runs_L2c ((s, m), x)) (fun m x => m_law_runs_L2s ((s, m), x)) xs m := by
    intro xs
    induction xs with
    | nil => intro k m _ _ _ _; trivial
    | cons x xs ih =>
      intro k m hp hk hl hm
      have hx : x.1 = (k : Int) := hp 0 x rfl
      rw [List.length_cons] at hk
      obtain ⟨t, et⟩ : ∃ t : m_law_runs_L2T, t = ((s, m), x) := ⟨_, rfl⟩
      have t0 : t.1.1 = s := by rw [et]
      have t1 : t.1.2 = m := by rw [et]
      have t2 : t.2 = x := by rw [et]
      have e7 : m_law_runs_h7 t = (ixI false ms (k : Int) && (decide ((0 : Int) < (k : Int)) && ixI false ms ((k : Int) - 1))) := by unfold m_law_runs_h7; rw [t0, s2, t2, hx]
      have e5 : m_law_runs_h5 t = ixI false ms (k : Int) := by unfold m_law_runs_h5; rw [t0, s2, t2, hx]
      have i0 : IxOk ms (k : Int) := ix_in h (by omega) (by omega)
      have h7 : m_law_runs_h7 t = true → m ≠ [] := fun q => by
        rw [e7, Bool.and_eq_true, Bool.and_eq_true] at q
        exact hm (by have := of_decide_eq_true q.2.1; omega) q.2.2
      have ev : m_law_runs_L2s t = if m_law_runs_h7 t = true then setI m (-1) ((ixI ((0 : Int), (0 : Int)) m (-1)).1, t.2.2.2) else if m_law_runs_h5 t = true then m ++ [(t.2.2.1, t.2.2.2)] else m := by
        show m_law_runs_v_found_8 t = _
        unfold m_law_runs_v_found_8 m_law_runs_v_found_6 m_law_runs_v_found_4 m_law_runs_v_found_3
        rw [t1]
      have step : loopC (fun m x => m_law_runs_L2c ((s, m), x)) (fun m x => m_law_runs_L2s ((s, m), x)) xs (m_law_runs_L2s t) := by
        refine ih (k + 1) _ (fun j y e => by rw [hp (j + 1) y e]; omega) (by omega) ?_ fun _ hmk => ?_
        · rw [ev]
          split
          · unfold setI; rw [List.length_set]; omega
          · split
            · rw [List.length_append, List.length_singleton]; omega
            · omega
        · have hmk' : ixI false ms (k : Int) = true := by
            rw [show (k : Int) = ((k + 1 : Nat) : Int) - 1 by omega]; exact hmk
          rw [ev, e5, hmk', if_pos rfl]
          split
          · rename_i q
            have := h7 q
            unfold setI
            intro z
            have hz := congrArg List.length z
            rw [List.length_set] at hz
            exact this (List.eq_nil_of_length_eq_zero hz)
          · simp
      rw [et] at step
      refine ⟨?_, step⟩
      show m_law_runs_L2c ((s, m), x)
      rw [← et]
      refine ⟨?_, fun _ q => ?_, fun q => ?_, fun q => ?_, fun _ => ?_, fun _ _ => ?_, trivial⟩
      · show IxOk t.1.1.2.1 t.2.1
        rw [t0, s2, t2, hx]; exact i0
      · show IxOk t.1.1.2.1 (t.2.1 - 1)
        have q' : decide ((0 : Int) < t.2.1) = true := q
        rw [t2, hx] at q'
        have := of_decide_eq_true q'
        rw [t0, s2, t2, hx]
        exact ix_in h (by omega) (by omega)
      · show IxOk t.1.2 (-1)
        rw [t1]; exact ixOk_last (h7 q)
      · show IxOk t.1.2 (-1)
        rw [t1]; exact ixOk_last (h7 q)
      · show IxOk t.1.1.2.1 t.2.1
        rw [t0, s2, t2, hx]; exact i0
      · show t.1.2.length < sizeLine
        rw [t1]; omega
  exact main (m_law_runs_L2x s) 0 (m_law_runs_L2i s) (fun j x e => by rw [Nat.zero_add]; exact pos j x e) (by omega) (Nat.le_refl 0) (fun z => absurd z (by decide))
theorem sel_len : ∀ {l : List (Int × Int)} {n : Int}, Sx.Sel n l → ∀ m : Int, 0 ≤ m → (∀ r ∈ l, m ≤ r.1) → m + l.length ≤ max n m
  | [], n, _, m, _, _ => by simp; omega
  | r :: l, n, h, m, hm, hl => by
    have h1 := h.1 r (List.mem_cons_self ..)
    have h2 := hl r (List.mem_cons_self ..)
    have ih := sel_len h.tail (r.2 + 1) (by omega) fun q hq => by
      have := (List.pairwise_cons.mp h.2).1 q hq
      omega
    rw [List.length_cons]
    omega
theorem set_len {ms : List Bool} {i : Int} {b : Bool} : (setI ms i b).length = ms.length := by
  unfold setI
  rw [List.length_set]
theorem rg2 {a b : Int} (h0 : 0 ≤ a) (h1 : a ≤ b) (h2 : b ≤ 1000) : RgOk2 a b := by
  unfold RgOk2
  have := line_big
  refine ⟨?_, ?_, ?_⟩ <;> first | omega | skip
theorem mem_rg2 {a b i : Int} : i ∈ rangeL2 a (b + 1) ↔ a ≤ i ∧ i ≤ b := by
  unfold rangeL2
  rw [List.mem_map]
  constructor
  · rintro ⟨k, hk, e⟩
    have := List.mem_range.mp hk
    omega
  · rintro ⟨h1, h2⟩
    exact ⟨(i - a).toNat, List.mem_range.mpr (by omega), by omega⟩
def Fine (d : PyData) : Prop := d.showable = true ∧ d.hasDict = false ∧ d.shown.length ≤ 900000
theorem nod_all : ∀ {ds : List PyData}, (∀ d ∈ ds, d.hasDict = false) → PyData.hasDictAll ds = false
  | [], _ => rfl
  | d :: ds, h => by
    show (d.hasDict || PyData.hasDictAll ds) = false
    rw [h d (List.mem_cons_self ..), nod_all fun x hx => h x (List.mem_cons_of_mem _ hx)]; rfl
theorem show_any {ds : List PyData} (h : ∀ d ∈ ds, Fine d) (hl : ds.length ≤ 16) : ShowA (PyData.list ds) := by
  refine ⟨Wd.all_show fun d hd => (h d hd).1, nod_all fun d hd => (h d hd).2.1, ?_⟩
  show (listText (PyData.shownAll ds)).length ≤ sizeLine
  have h1 := Wd.list_len (PyData.shownAll ds)
  have h2 := Wd.piled_le (B := 900000) (Wd.all_mem (P := fun t => t.length ≤ 900000) (ds := ds) fun e he => (h e he).2.2)
  rw [Wd.all_len] at h2
  have h3 : ds.length * (900000 + 2) ≤ 16 * 900002 := Nat.mul_le_mul_right _ hl
  have := sizeLine_eq
  omega
theorem pair_show {l k : List (Int × Int)} (hl : Fine ((dfList (dfT2 dfInt dfInt)).toD l)) (hk : Fine ((dfList (dfT2 dfInt dfInt)).toD k)) : ShowOk (dfList (dfList (dfT2 dfInt dfInt))) [l, k] := by
  obtain ⟨a, _, b⟩ := show_any (ds := [(dfList (dfT2 dfInt dfInt)).toD l, (dfList (dfT2 dfInt dfInt)).toD k]) (fun d hd => by
    have hd' : d = (dfList (dfT2 dfInt dfInt)).toD l ∨ d = (dfList (dfT2 dfInt dfInt)).toD k := by simpa using hd
    rcases hd' with e | e <;> rw [e] <;> assumption) (by simp)
  exact ⟨a, b⟩
theorem fine_list {α : Type} {d : DF α} {l : List α} (hd : PlainD d) (h : ∀ x ∈ l, (d.toD x).showable = true ∧ (d.toD x).shown.length ≤ 4000) (hl : l.length ≤ 220) : Fine ((dfList d).toD l) := by
  refine ⟨Wd.all_show fun e he => ?_, (pd_list hd).nodict l, ?_⟩
  · obtain ⟨r, hr, e⟩ := List.mem_map.mp (show e ∈ l.map d.toD from he)
    rw [← e]; exact (h r hr).1
  · show (listText (PyData.shownAll (l.map d.toD))).length ≤ _
    have h1 := Wd.list_len (PyData.shownAll (l.map d.toD))
    have h2 := Wd.piled_le (B := 4000) (Wd.all_mem (P := fun t => t.length ≤ 4000) (ds := l.map d.toD) fun e he => by
      obtain ⟨r, hr, e⟩ := List.mem_map.mp he
      rw [← e]; exact (h r hr).2)
    rw [Wd.all_len, List.length_map] at h2
    have h3 : l.length * (4000 + 2) ≤ 220 * 4002 := Nat.mul_le_mul_right _ hl
    omega
theorem fine_sel {n : Int} {l : List (Int × Int)} (n2 : n ≤ 1000000000000000000000000000000) (h : Sx.Sel n l) (hl : l.length ≤ 220) : Fine ((dfList (dfT2 dfInt dfInt)).toD l) := by
  refine fine_list (pd_t2 pd_int pd_int) (fun r hr => ?_) hl
  have hv := h.1 r hr
  obtain ⟨r1, r2⟩ := Wd.tup2_show (Wd.int_show (v := r.1) hv.1 (by omega)) (Wd.int_show (v := r.2) (by omega) (by omega))
  exact ⟨r1, by show (PyData.tuple [PyData.int r.1, PyData.int r.2]).shown.length ≤ 4000; omega⟩
theorem ix_natB {α : Type} {d : α} {xs : List α} {i : Nat} : ixI d xs (i : Int) = xs.getD i d := by
  unfold ixI
  rw [if_pos (by omega)]
  simp
theorem loop_res {M α R : Type} {step : M → α → M} {c : M → α → Prop} {r : M → α → Option R} (I : Nat → M → Prop) (P : R → Prop) : ∀ (xs : List α) (k : Nat) (m : M), I k m → (∀ j m x, j < k + xs.length → x ∈ xs → I j m → c m x ∧ (∀ v, r m x = some v → P v) ∧ (r m x = none → I (j + 1) (step m x))) →
    loopCr c r step xs m ∧ (∀ v, loopR r step xs m = some v → P v) ∧ (loopR r step xs m = none → I (k + xs.length) (loopF step xs m))
  | [], k, m, h, _ => ⟨trivial, fun v e => (nomatch e), fun _ => h⟩
  | x :: xs, k, m, h, hs => by
    obtain ⟨h1, h2, h3⟩ := hs k m x (by simp) (List.mem_cons_self ..) h
    cases e : r m x with
    | some v =>
      refine ⟨⟨h1, fun q => by rw [e] at q; cases q⟩, fun w q => ?_, fun q => ?_⟩
      · unfold loopR at q
        rw [e] at q
        cases q
        exact h2 v e
      · unfold loopR at q
        rw [e] at q
        cases q
    | none =>
      obtain ⟨h4, h5, h6⟩ := loop_res I P xs (k + 1) (step m x) (h3 e) fun j m y hj hy => hs j m y (by simp; omega) (List.mem_cons_of_mem _ hy)
      refine ⟨⟨h1, fun _ => h4⟩, fun w q => ?_, fun q => ?_⟩
      · unfold loopR at q
        rw [e] at q
        exact h5 w q
      · unfold loopR at q
        rw [e] at q
        rw [show k + (x :: xs).length = k + 1 + xs.length by simp; omega]
        exact h6 q
theorem len4 {α : Type} {l : List α} {i : Int} {n : Nat} (hl : l.length = n) (h0 : 0 ≤ i) (h1 : i < n) : IxOk l i := by
  unfold IxOk
  rw [hl]
  omega
theorem cell_pre (ns : List Int) (k : Int) (h0 : 0 ≤ k) : m_law_cell_at_p (ns, k, ()) := by
  refine ⟨?_, trivial⟩
  show if (decide (k < (ns.length : Int))) = true then _ else _
  split
  · rename_i h
    have := of_decide_eq_true h
    exact ⟨⟨by show -(ns.length : Int) ≤ k; omega, this⟩, trivial⟩
  · trivial
end
end Lw

/-! the clicks on marks; layers of states; the search -/
namespace Lw
open PySem PySem.Spec PyProof PyProof.Rows L2 Dx
theorem setI_len {α : Type} (B : List α) (i : Int) (v : α) : (setI B i v).length = B.length := by
  unfold setI
  rw [List.length_set]
theorem ixSet {B : List Bool} {i x : Int} {v : Bool} (i0 : 0 ≤ i) (i1 : i < B.length) (x0 : 0 ≤ x) : ixI false (setI B i v) x = if x = i then v else ixI false B x := by
  obtain ⟨j, rfl⟩ : ∃ j : Nat, x = (j : Int) := ⟨x.toNat, by omega⟩
  rw [ix_natB, ix_natB]
  unfold setI
  rw [if_pos i0, List.getD_eq_getElem?_getD, List.getElem?_set, List.getD_eq_getElem?_getD]
  by_cases z : (j : Int) = i
  · rw [if_pos (by omega), if_pos z, if_pos (by omega)]; rfl
  · rw [if_neg (by omega), if_neg z]
theorem loop_gen {M α : Type} {step : M → α → M} {c : M → α → Prop} (I : Nat → M → Prop) : ∀ (xs : List α) (k : Nat) (m : M), I k m → (∀ j m x, xs[j]? = some x → I (k + j) m → c m x ∧ I (k + j + 1) (step m x)) → loopC c step xs m ∧ I (k + xs.length) (loopF step xs m)
  | [], k, m, h, _ => ⟨trivial, h⟩
  | x :: xs, k, m, h, hs => by
    obtain ⟨h1, h2⟩ := hs 0 m x rfl h
    obtain ⟨h3, h4⟩ := loop_gen I xs (k + 1) (step m x) h2 fun j m y hy hi => by
      have := hs (j + 1) m y hy (by rw [show k + (j + 1) = k + 1 + j by omega]; exact hi)
      rw [show k + (j + 1) + 1 = k + 1 + j + 1 by omega] at this
      exact this
    refine ⟨⟨h1, h3⟩, ?_⟩
    rw [show k + (x :: xs).length = k + 1 + xs.length by simp; omega]
    exact h4
/-- a loop, the place known -/
theorem loop_ix {M α : Type} {step : M → α → M} {c : M → α → Prop} (I : Nat → M → Prop) (xs : List α) (m : M) (h : I 0 m) (hs : ∀ j m x, xs[j]? = some x → I j m → c m x ∧ I (j + 1) (step m x)) : loopC c step xs m ∧ I xs.length (loopF step xs m) := by
  have := loop_gen I xs 0 m h fun j m x e hi => by
    rw [Nat.zero_add] at hi ⊢
    exact hs j m x e hi
  rw [Nat.zero_add] at this
  exact this
theorem range_get {n : Int} {j : Nat} {x : Int} (h : (rangeL n)[j]? = some x) : x = j ∧ (j : Int) < n ∧ 0 ≤ x ∧ x < n := by
  unfold rangeL at h
  rw [List.getElem?_map] at h
  by_cases w : j < n.toNat
  · rw [List.getElem?_range w] at h
    simp at h
    omega
  · rw [List.getElem?_eq_none (by rw [List.length_range]; omega)] at h
    cases h
theorem range2_get {a b : Int} {j : Nat} {x : Int} (h : (rangeL2 a b)[j]? = some x) : x = a + j ∧ a ≤ x ∧ x < b := by
  unfold rangeL2 at h
  rw [List.getElem?_map] at h
  by_cases w : j < (b - a).toNat
  · rw [List.getElem?_range w] at h
    simp at h
    omega
  · rw [List.getElem?_eq_none (by rw [List.length_range]; omega)] at h
    cases h
/-! #### one click -/
theorem click_ok {n : Nat} {ms : List Bool} {a i : Int} (h : ms.length = n) (h0 : 0 ≤ i) (h1 : i < n) : m_law_after_p (ms, a, ("click" : Str), i, ()) ∧ (m_law_after (ms, a, ("click" : Str), i, ())).length = n ∧
    ∀ p : Int, 0 ≤ p → p < n → ixI false (m_law_after (ms, a, ("click" : Str), i, ())) p = if p = i then !(ixI false ms i) else ixI false ms p := by
  have ek : m_law_after_h4 (ms, a, ("click" : Str), i, ()) = true := by
    show (dfStr).eq ("click" : Str) ("click" : Str) = true
    exact df_t.mpr rfl
  have e : m_law_after (ms, a, ("click" : Str), i, ()) = setI ms i (!(ixI false ms i)) := by
    unfold m_law_after m_law_after_v_now_5
    rw [hide_eq, if_pos ek]
    rfl
  refine ⟨⟨fun _ => ix_in h h0 h1, fun _ => ix_in h h0 h1, fun z => ?_, fun z => ?_, trivial⟩, ?_, fun p p0 p1 => ?_⟩
  · rw [show m_law_after_h4 (ms, a, ("click" : Str), i, ()) = true from ek] at z; cases z
  · rw [show m_law_after_h4 (ms, a, ("click" : Str), i, ()) = true from ek] at z; cases z
  · rw [e, setI_len, h]
  · rw [e, ixSet h0 (by omega) p0]
theorem range_ok {n : Nat} {ms : List Bool} {a i : Int} (hn : n ≤ 100) (h : ms.length = n) (a0 : 0 ≤ a) (a1 : a < n) (h0 : 0 ≤ i) (h1 : i < n) : m_law_after_p (ms, a, ("range" : Str), i, ()) ∧ (m_law_after (ms, a, ("range" : Str), i, ())).length = n ∧
    ∀ p : Int, 0 ≤ p → p < n → ixI false (m_law_after (ms, a, ("range" : Str), i, ())) p = if min a i ≤ p ∧ p ≤ max a i then ixI false ms a else ixI false ms p := by
  obtain ⟨s, es⟩ : ∃ s : m_law_after_S, s = (ms, a, ("range" : Str), i, ()) := ⟨_, rfl⟩
  have s1 : s.1 = ms := by rw [es]
  have s2 : s.2.1 = a := by rw [es]
  have ek : m_law_after_h4 s = false := by
    rw [es]
    show (dfStr).eq ("range" : Str) ("click" : Str) = false
    exact Bool.eq_false_iff.mpr fun z => absurd (df_t.mp z : ("range" : Str) = ("click" : Str)) (by decide)
  have ex : m_law_after_L2x s = rangeL2 (min a i) (max a i + 1) := by unfold m_law_after_L2x; rw [es]
  have ln : (rangeL2 (min a i) (max a i + 1)).length = (max a i + 1 - min a i).toNat := by unfold rangeL2; simp
  have main := loop_ix (c := fun m x => m_law_after_L2c ((s, m), x)) (step := fun m x => m_law_after_L2s ((s, m), x)) (fun j (m : List Bool) => m.length = n ∧ ∀ x : Int, 0 ≤ x → x < n → ixI false m x = if min a i ≤ x ∧ x < min a i + j then ixI false ms a else ixI false ms x)
      (m_law_after_L2x s) (m_law_after_L2i s) ⟨by show s.1.length = n; rw [s1, h], fun x _ _ => by
        rw [if_neg (by omega)]
        show ixI false s.1 x = _
        rw [s1]⟩ fun j m x hg ⟨ml, mm⟩ => by
    rw [ex] at hg
    obtain ⟨e1, e2, e3⟩ := range2_get hg
    refine ⟨⟨by show IxOk s.1 s.2.1; rw [s1, s2]; exact ix_in h a0 a1, ix_in ml (by show 0 ≤ x; omega) (by show x < _; omega), trivial⟩, ?_, fun y y0 y1 => ?_⟩
    · show (setI m x _).length = _
      rw [setI_len, ml]
    · show ixI false (setI m x (ixI false s.1 s.2.1)) y = _
      rw [ixSet (by omega) (by omega) y0, mm y y0 y1, s1, s2]
      by_cases z : y = x
      · rw [if_pos z, if_pos (by omega)]
      · rw [if_neg z]
        by_cases w : min a i ≤ y ∧ y < min a i + j
        · rw [if_pos w, if_pos (by omega)]
        · rw [if_neg w, if_neg (by omega)]
  obtain ⟨lc, l1, l2⟩ := main
  have e : m_law_after s = loopF (fun m x => m_law_after_L2s ((s, m), x)) (m_law_after_L2x s) (m_law_after_L2i s) := by
    unfold m_law_after m_law_after_v_now_5 m_law_after_L2
    rw [hide_eq, if_neg (by rw [ek]; exact Bool.false_ne_true), LoopF_eq]
  rw [← e] at l1 l2
  rw [← es]
  refine ⟨⟨fun z => ?_, fun z => ?_, fun _ => ?_, fun _ => lc, trivial⟩, l1, fun p p0 p1 => ?_⟩
  · rw [show m_law_after_h4 s = false from ek] at z; cases z
  · rw [show m_law_after_h4 s = false from ek] at z; cases z
  · rw [es]
    exact rg2 (by show 0 ≤ min a i; omega) (by show min a i ≤ max a i + 1; omega) (by show max a i + 1 ≤ 1000; omega)
  · rw [l2 p p0 p1, ex, ln]
    by_cases w : min a i ≤ p ∧ p ≤ max a i
    · rw [if_pos w, if_pos (by omega)]
    · rw [if_neg w, if_neg (by omega)]
/-! #### pairs of marks -/
abbrev Tr : Type := List Bool × List Bool × Option Int
def OkT (n : Nat) (e : Tr) : Prop := e.1.length = n ∧ e.2.1.length = n ∧ ∀ a, e.2.2 = some a → 0 ≤ a ∧ a < (n : Int)
def ck (e : Tr) (i : Int) : Tr := (m_law_after (e.1, 0, ("click" : Str), i, ()), m_law_after (e.2.1, 0, ("click" : Str), i, ()), some i)
def rg (e : Tr) (a i : Int) : Tr := (m_law_after (e.1, a, ("range" : Str), i, ()), m_law_after (e.2.1, a, ("range" : Str), i, ()), some a)
def stp (e : Tr) (i : Int) (x : Tr) : Prop := x = ck e i ∨ ∃ a, e.2.2 = some a ∧ x = rg e a i
def nx (n : Nat) (e x : Tr) : Prop := ∃ i : Int, 0 ≤ i ∧ i < n ∧ stp e i x
def dif (e : Tr) (p : Int) : Bool := ixI false e.1 p != ixI false e.2.1 p
theorem ck_ok {n : Nat} {e : Tr} {i : Int} (h : OkT n e) (h0 : 0 ≤ i) (h1 : i < n) : OkT n (ck e i) ∧ ∀ p : Int, 0 ≤ p → p < n → dif (ck e i) p = dif e p := by
  obtain ⟨_, a2, a3⟩ := click_ok (a := 0) h.1 h0 h1
  obtain ⟨_, b2, b3⟩ := click_ok (a := 0) h.2.1 h0 h1
  refine ⟨⟨a2, b2, fun a ea => by injection ea with ea; omega⟩, fun p p0 p1 => ?_⟩
  show (ixI false (m_law_after (e.1, 0, ("click" : Str), i, ())) p != ixI false (m_law_after (e.2.1, 0, ("click" : Str), i, ())) p) = _
  rw [a3 p p0 p1, b3 p p0 p1]
  unfold dif
  by_cases z : p = i
  · rw [if_pos z, if_pos z, z]
    cases ixI false e.1 i <;> cases ixI false e.2.1 i <;> rfl
  · rw [if_neg z, if_neg z]
theorem rg_okT {n : Nat} {e : Tr} {a i : Int} (hn : n ≤ 100) (h : OkT n e) (a0 : 0 ≤ a) (a1 : a < n) (h0 : 0 ≤ i) (h1 : i < n) : OkT n (rg e a i) ∧ ∀ p : Int, 0 ≤ p → p < n → dif (rg e a i) p = if min a i ≤ p ∧ p ≤ max a i then dif e a else dif e p := by
  obtain ⟨_, a2, a3⟩ := range_ok hn h.1 a0 a1 h0 h1
  obtain ⟨_, b2, b3⟩ := range_ok hn h.2.1 a0 a1 h0 h1
  refine ⟨⟨a2, b2, fun b eb => by injection eb with eb; omega⟩, fun p p0 p1 => ?_⟩
  show (ixI false (m_law_after (e.1, a, ("range" : Str), i, ())) p != ixI false (m_law_after (e.2.1, a, ("range" : Str), i, ())) p) = _
  rw [a3 p p0 p1, b3 p p0 p1]
  unfold dif
  split <;> rfl
theorem nx_ok {n : Nat} {e x : Tr} (hn : n ≤ 100) (h : OkT n e) (q : nx n e x) : OkT n x := by
  obtain ⟨i, h0, h1, rfl | ⟨a, ea, rfl⟩⟩ := q
  · exact (ck_ok h h0 h1).1
  · obtain ⟨a0, a1⟩ := h.2.2 a ea
    exact (rg_okT hn h a0 a1 h0 h1).1
def Rc (n : Nat) (e0 : Tr) : Nat → Tr → Prop
  | 0, x => x = e0
  | k + 1, x => ∃ e, Rc n e0 k e ∧ nx n e x
theorem rc_ok {n : Nat} {e0 : Tr} (hn : n ≤ 100) (h : OkT n e0) : ∀ {k : Nat} {x : Tr}, Rc n e0 k x → OkT n x
  | 0, x, q => by rw [show x = e0 from q]; exact h
  | k + 1, x, ⟨e, q, r⟩ => nx_ok hn (rc_ok hn h q) r
theorem eqT {n : Nat} {x : Tr} (h : OkT n x) : x.1 = x.2.1 ↔ ∀ p : Int, 0 ≤ p → p < n → dif x p = false := by
  constructor
  · intro e p _ _
    unfold dif
    rw [e]
    cases ixI false x.2.1 p <;> rfl
  · intro q
    apply List.ext_getElem (by rw [h.1, h.2.1])
    intro j h1 h2
    have := q j (by omega) (by have := h.1; omega)
    unfold dif at this
    rw [ix_of (j := j) rfl h1, ix_of (j := j) rfl h2] at this
    cases ha : x.1[j] <;> cases hb : x.2.1[j] <;> rw [ha, hb] at this <;> first | rfl | cases this
theorem rc1 {n : Nat} {e0 x : Tr} (h : OkT n e0) (q : Rc n e0 1 x) : (∀ p : Int, 0 ≤ p → p < n → dif x p = dif e0 p) ∨ e0.2.2.isSome = true := by
  obtain ⟨e, rfl, i, h0, h1, rfl | ⟨a, ea, rfl⟩⟩ := q
  · exact .inl (ck_ok h h0 h1).2
  · exact .inr (by rw [ea]; rfl)
section
variable {n : Nat} {e0 : Tr} (hn : n ≤ 100) (h : OkT n e0) (ha : e0.2.2 = none)
include hn h ha
theorem eq1 : (∃ x, Rc n e0 1 x ∧ x.1 = x.2.1) → e0.1 = e0.2.1 := by
  rintro ⟨x, q, e⟩
  refine (eqT h).mpr fun p p0 p1 => ?_
  have hx := (eqT (rc_ok hn h q)).mp e p p0 p1
  rcases rc1 h q with d | d
  · rw [← d p p0 p1]; exact hx
  · rw [ha] at d; cases d
theorem dif1 {x : Tr} (q : Rc n e0 1 x) : ∀ p : Int, 0 ≤ p → p < n → dif x p = dif e0 p := by
  rcases rc1 h q with d | d
  · exact d
  · rw [ha] at d; cases d
theorem eq2 (hne : e0.1 ≠ e0.2.1) (n1 : 1 ≤ n) (d0 : dif e0 0 = true) (d1 : dif e0 ((n : Int) - 1) = true) : ¬ ∃ x, Rc n e0 2 x ∧ x.1 = x.2.1 := by
  rintro ⟨x, ⟨e, q, i, h0, h1, rfl | ⟨a, ea, rfl⟩⟩, eq⟩
  · have he := rc_ok hn h q
    refine hne ((eqT h).mpr fun p p0 p1 => ?_)
    rw [← dif1 hn h ha q p p0 p1, ← (ck_ok he h0 h1).2 p p0 p1]
    exact (eqT (ck_ok he h0 h1).1).mp eq p p0 p1
  · have he := rc_ok hn h q
    obtain ⟨a0, a1⟩ := he.2.2 a ea
    obtain ⟨k1, k2⟩ := rg_okT hn he a0 a1 h0 h1
    have all := (eqT k1).mp eq
    have z0 := all 0 (by omega) (by omega)
    have z1 := all ((n : Int) - 1) (by omega) (by omega)
    have za := all a a0 a1
    rw [k2 a a0 a1, if_pos (by omega), dif1 hn h ha q a a0 a1] at za
    rw [k2 0 (by omega) (by omega), dif1 hn h ha q 0 (by omega) (by omega)] at z0
    rw [k2 ((n : Int) - 1) (by omega) (by omega), dif1 hn h ha q ((n : Int) - 1) (by omega) (by omega)] at z1
    have w0 : min a i ≤ 0 ∧ 0 ≤ max a i := by
      apply Classical.byContradiction
      intro w
      rw [if_neg w, d0] at z0
      cases z0
    have w1 : min a i ≤ (n : Int) - 1 ∧ (n : Int) - 1 ≤ max a i := by
      apply Classical.byContradiction
      intro w
      rw [if_neg w, d1] at z1
      cases z1
    have na : a ≠ 0 := fun z => by rw [z, d0] at za; cases za
    have nb : a ≠ (n : Int) - 1 := fun z => by rw [z, d1] at za; cases za
    omega
theorem got2 (n1 : 1 ≤ n) (hd : dif e0 0 = false ∨ dif e0 ((n : Int) - 1) = false) : ∃ x, Rc n e0 2 x ∧ x.1 = x.2.1 := by
  have main : ∀ a i : Int, 0 ≤ a → a < n → 0 ≤ i → i < n → dif e0 a = false → (min a i = 0 ∧ max a i = (n : Int) - 1) → ∃ x, Rc n e0 2 x ∧ x.1 = x.2.1 := by
    intro a i a0 a1 i0 i1 da w
    obtain ⟨k1, k2⟩ := ck_ok h a0 a1
    obtain ⟨k3, k4⟩ := rg_okT hn k1 a0 a1 i0 i1
    refine ⟨rg (ck e0 a) a i, ⟨ck e0 a, ⟨e0, rfl, a, a0, a1, .inl rfl⟩, i, i0, i1, .inr ⟨a, rfl, rfl⟩⟩, (eqT k3).mpr fun p p0 p1 => ?_⟩
    rw [k4 p p0 p1, if_pos (by omega), k2 a a0 a1, da]
  rcases hd with d | d
  · exact main 0 ((n : Int) - 1) (by omega) (by omega) (by omega) (by omega) d (by omega)
  · exact main ((n : Int) - 1) 0 (by omega) (by omega) (by omega) (by omega) d (by omega)
theorem got3 (n1 : 1 ≤ n) {g : Int} (g0 : 0 ≤ g) (g1 : g < n) (hd : dif e0 g = false) : ∃ x, Rc n e0 3 x ∧ x.1 = x.2.1 := by
  obtain ⟨k1, k2⟩ := ck_ok h g0 g1
  obtain ⟨k3, k4⟩ := rg_okT hn k1 g0 g1 (i := 0) (by omega) (by omega)
  obtain ⟨k5, k6⟩ := rg_okT hn k3 g0 g1 (i := (n : Int) - 1) (by omega) (by omega)
  refine ⟨rg (rg (ck e0 g) g 0) g ((n : Int) - 1), ⟨rg (ck e0 g) g 0, ⟨ck e0 g, ⟨e0, rfl, g, g0, g1, .inl rfl⟩, 0, by omega, by omega, .inr ⟨g, rfl, rfl⟩⟩, (n : Int) - 1, by omega, by omega, .inr ⟨g, rfl, rfl⟩⟩, (eqT k5).mpr fun p p0 p1 => ?_⟩
  have dg : dif (rg (ck e0 g) g 0) g = false := by rw [k4 g g0 g1, if_pos (by omega), k2 g g0 g1, hd]
  rw [k6 p p0 p1]
  by_cases w : min g ((n : Int) - 1) ≤ p ∧ p ≤ max g ((n : Int) - 1)
  · rw [if_pos w, dg]
  · rw [if_neg w, k4 p p0 p1, if_pos (by omega), k2 g g0 g1, hd]
theorem alldif (n1 : 1 ≤ n) (hd : ∀ p : Int, 0 ≤ p → p < n → dif e0 p = true) : ∀ {k : Nat} {x : Tr}, Rc n e0 k x → ∀ p : Int, 0 ≤ p → p < n → dif x p = true
  | 0, x, q => by rw [show x = e0 from q]; exact hd
  | k + 1, x, ⟨e, q, i, h0, h1, r⟩ => fun p p0 p1 => by
    have he := rc_ok hn h q
    have ih := alldif n1 hd q
    rcases r with rfl | ⟨a, ea, rfl⟩
    · rw [(ck_ok he h0 h1).2 p p0 p1]; exact ih p p0 p1
    · obtain ⟨a0, a1⟩ := he.2.2 a ea
      rw [(rg_okT hn he a0 a1 h0 h1).2 p p0 p1]
      split
      · exact ih a a0 a1
      · exact ih p p0 p1
theorem none3 (n1 : 1 ≤ n) (hd : ∀ p : Int, 0 ≤ p → p < n → dif e0 p = true) (k : Nat) : ¬ ∃ x, Rc n e0 k x ∧ x.1 = x.2.1 := by
  rintro ⟨x, q, e⟩
  have h1 := alldif hn h ha n1 hd q 0 (by omega) (by omega)
  have h2 := (eqT (rc_ok hn h q)).mp e 0 (by omega) (by omega)
  rw [h1] at h2
  cases h2
end
end Lw

/-! the layers of the search -/
namespace Lw
open PySem PySem.Spec PyProof PyProof.Rows L2 Dx
theorem ixOk2 {α : Type} {l : List α} {n : Nat} {i : Int} (h : l.length = n) (h0 : 0 ≤ i) (h1 : i < n) : IxOk l i := by
  unfold IxOk
  omega
theorem items_ok {n : Nat} (n1 : n ≤ 4) {t : m_law_search_L5T} (h0 : t.1.1.1.1.1 = (n : Int)) (he : OkT n t.2) (hs : t.1.2.length ≤ 10000) :
    RgOk t.1.1.1.1.1 ∧ loopC (fun m x => m_law_search_L6c ((t, m), x)) (fun m x => m_law_search_L6s ((t, m), x)) (m_law_search_L6x t) (m_law_search_L6i t) ∧ (∀ x, x ∈ m_law_search_L6 t ↔ x ∈ t.1.2 ∨ nx n t.2 x) ∧ (m_law_search_L6 t).length ≤ t.1.2.length + 8 := by
  have big := line_big
  have hx : m_law_search_L6x t = rangeL n := by unfold m_law_search_L6x; rw [h0]
  have main := loop_ix (c := fun m x => m_law_search_L6c ((t, m), x)) (step := fun m x => m_law_search_L6s ((t, m), x)) (fun j (m : m_law_search_L6M) => (∀ x, x ∈ m ↔ x ∈ t.1.2 ∨ ∃ i : Int, 0 ≤ i ∧ i < j ∧ stp t.2 i x) ∧ m.length ≤ t.1.2.length + 2 * j) (m_law_search_L6x t) (m_law_search_L6i t)
      ⟨fun x => ⟨.inl, fun z => z.elim id fun ⟨i, a, b, _⟩ => absurd a (by omega)⟩, Nat.le_refl _⟩ fun j m x hg ⟨hm, ml⟩ => by
    rw [hx] at hg
    obtain ⟨ex, jn, x0, x1⟩ := range_get hg
    obtain ⟨u, eu⟩ : ∃ u : m_law_search_L6T, u = ((t, m), x) := ⟨_, rfl⟩
    rw [← eu]
    have u0 : u.1.1 = t := by rw [eu]
    have u1 : u.1.2 = m := by rw [eu]
    have u2 : u.2 = x := by rw [eu]
    obtain ⟨p1, _, _⟩ := click_ok (a := 0) he.1 x0 x1
    obtain ⟨p2, _, _⟩ := click_ok (a := 0) he.2.1 x0 x1
    have e9 : m_law_search_v_found_9 u = m ++ [ck t.2 x] := by
      unfold m_law_search_v_found_9 m_law_search_c7 m_law_search_c8
      rw [u0, u1, u2]; rfl
    have e13 : m_law_search_h13 u = t.2.2.2.isSome := by unfold m_law_search_h13; rw [u0]
    have e11 : ∀ a, t.2.2.2 = some a → m_law_search_v_sides_11 u = [(rg t.2 a x).1, (rg t.2 a x).2.1] := fun a ea => by
      unfold m_law_search_v_sides_11
      rw [lcV_t, u0]
      show [m_law_search_c10 (u, t.2.1), m_law_search_c10 (u, t.2.2.1)] = _
      unfold m_law_search_c10
      show [m_law_after (t.2.1, (u.1.1.2.2.2).getD 0, ("range" : Str), u.2, ()), m_law_after (t.2.2.1, (u.1.1.2.2.2).getD 0, ("range" : Str), u.2, ())] = _
      rw [u0, u2, ea]; rfl
    have hlen : ∀ a, t.2.2.2 = some a → (m_law_search_v_sides_11 u).length = 2 := fun a ea => by rw [e11 a ea]; rfl
    refine ⟨⟨?_, ?_, ?_, fun z => ?_, fun z => ?_, fun z => ?_, fun z => ?_, trivial⟩, ?_⟩
    · show m_law_after_p (u.1.1.2.1, 0, ("click" : Str), u.2, ())
      rw [u0, u2]; exact p1
    · show m_law_after_p (u.1.1.2.2.1, 0, ("click" : Str), u.2, ())
      rw [u0, u2]; exact p2
    · show u.1.2.length < sizeLine
      rw [u1]; omega
    · have z' : m_law_search_h13 u = true := z
      rw [e13] at z'
      obtain ⟨a, ea⟩ := Option.isSome_iff_exists.mp z'
      obtain ⟨a0, a1⟩ := he.2.2 a ea
      obtain ⟨q1, _, _⟩ := range_ok (by omega) he.1 a0 a1 x0 x1
      obtain ⟨q2, _, _⟩ := range_ok (by omega) he.2.1 a0 a1 x0 x1
      intro y hy
      refine ⟨trivial, fun _ => ⟨?_, ?_, trivial⟩⟩
      · show (u.1.1.2.2.2).isSome = true
        rw [u0]; exact z'
      · show m_law_after_p (y, (u.1.1.2.2.2).getD 0, ("range" : Str), u.2, ())
        rw [u0, u2, ea]
        have hy' : y ∈ [t.2.1, t.2.2.1] := by
          have hy2 : y ∈ [u.1.1.2.1, u.1.1.2.2.1] := hy
          rw [u0] at hy2; exact hy2
        rcases List.mem_cons.mp hy' with rfl | hy'
        · exact q1
        · rw [List.mem_singleton.mp hy']; exact q2
    · have z' : m_law_search_h13 u = true := z
      rw [e13] at z'
      obtain ⟨a, ea⟩ := Option.isSome_iff_exists.mp z'
      show IxOk (m_law_search_v_sides_11 u) 0
      exact ixOk2 (hlen a ea) (by decide) (by decide)
    · have z' : m_law_search_h13 u = true := z
      rw [e13] at z'
      obtain ⟨a, ea⟩ := Option.isSome_iff_exists.mp z'
      show IxOk (m_law_search_v_sides_11 u) 1
      exact ixOk2 (hlen a ea) (by decide) (by decide)
    · show (m_law_search_v_found_9 u).length < sizeLine
      rw [e9, List.length_append, List.length_singleton]; omega
    · have split : ∀ y, (∃ i : Int, 0 ≤ i ∧ i < ((j + 1 : Nat) : Int) ∧ stp t.2 i y) ↔ (∃ i : Int, 0 ≤ i ∧ i < j ∧ stp t.2 i y) ∨ stp t.2 x y := fun y => by
        constructor
        · rintro ⟨i, i0, i1, q⟩
          by_cases w : i < j
          · exact .inl ⟨i, i0, w, q⟩
          · exact .inr (by rw [ex, show (j : Int) = i by omega]; exact q)
        · rintro (⟨i, i0, i1, q⟩ | q)
          · exact ⟨i, i0, by omega, q⟩
          · exact ⟨x, x0, by omega, q⟩
      show (∀ y, y ∈ m_law_search_v_found_14 u ↔ _) ∧ (m_law_search_v_found_14 u).length ≤ _
      unfold m_law_search_v_found_14
      rw [e13]
      cases ea : t.2.2.2 with
      | none =>
        rw [if_neg (by exact Bool.false_ne_true), e9]
        refine ⟨fun y => ?_, by rw [List.length_append, List.length_singleton]; omega⟩
        rw [List.mem_append, List.mem_singleton, hm y, split y, or_assoc]
        refine or_congr Iff.rfl (or_congr Iff.rfl ⟨.inl, fun q => ?_⟩)
        rcases q with q | ⟨a, eb, _⟩
        · exact q
        · rw [ea] at eb; cases eb
      | some a =>
        have e12 : m_law_search_v_found_12 u = m ++ [ck t.2 x] ++ [rg t.2 a x] := by
          unfold m_law_search_v_found_12
          rw [e9, e11 a ea, u0, ea]; rfl
        rw [if_pos (show (some a).isSome = true from rfl), e12]
        refine ⟨fun y => ?_, by rw [List.length_append, List.length_append, List.length_singleton, List.length_singleton]; omega⟩
        rw [List.mem_append, List.mem_append, List.mem_singleton, List.mem_singleton, hm y, split y, or_assoc, or_assoc, ]
        refine or_congr Iff.rfl (or_congr Iff.rfl ⟨fun q => ?_, fun q => ?_⟩)
        · rcases q with q | q
          · exact .inl q
          · exact .inr ⟨a, ea, q⟩
        · rcases q with q | ⟨b, eb, q⟩
          · exact .inl q
          · rw [ea] at eb; injection eb with eb; rw [← eb] at q; exact .inr q
  obtain ⟨lc, l1, l2⟩ := main
  have eL : m_law_search_L6 t = loopF (fun m x => m_law_search_L6s ((t, m), x)) (m_law_search_L6x t) (m_law_search_L6i t) := by unfold m_law_search_L6; rw [LoopF_eq]
  have ln : (m_law_search_L6x t).length = n := by rw [hx, rangeL_len]; omega
  rw [← eL, ln] at l1 l2
  exact ⟨by rw [h0]; exact rg_ok (by omega) (by omega), lc, l1, by omega⟩
theorem mapfst {α : Type} (xs : List α) : ((lcV xs (fun _ => true) (fun x => (x, true))).map Prod.fst) = xs := by
  rw [lcV_t, List.map_map]
  exact List.map_id _
/-- the next layer -/
theorem layer_ok {n : Nat} (n1 : n ≤ 4) {t : m_law_search_L2T} (h0 : t.1.1.1 = (n : Int)) (ho : ∀ e ∈ t.1.2, OkT n e) (hs : t.1.2.length ≤ 512) :
    loopC (fun m x => m_law_search_L5c ((t, m), x)) (fun m x => m_law_search_L5s ((t, m), x)) (m_law_search_L5x t) (m_law_search_L5i t) ∧ (t.2 < 3 → ∀ x, x ∈ m_law_search_v_layer_15 t ↔ ∃ e ∈ t.1.2, nx n e x) ∧ (m_law_search_v_layer_15 t).length ≤ 8 * t.1.2.length := by
  have hx5 : ∀ e ∈ m_law_search_L5x t, e ∈ t.1.2 := fun e he => by
    unfold m_law_search_L5x at he
    split at he
    · exact he
    · cases he
  have hl5 : (m_law_search_L5x t).length ≤ t.1.2.length := by
    unfold m_law_search_L5x
    split
    · exact Nat.le_refl _
    · exact Nat.zero_le _
  have main := loop_ix (c := fun m x => m_law_search_L5c ((t, m), x)) (step := fun m x => m_law_search_L5s ((t, m), x)) (fun j (v : m_law_search_L5M) => (∀ x, x ∈ v ↔ ∃ (k : Nat) (e : Tr), k < j ∧ (m_law_search_L5x t)[k]? = some e ∧ nx n e x) ∧ v.length ≤ 8 * j) (m_law_search_L5x t) (m_law_search_L5i t)
      ⟨fun x => ⟨fun z => (nomatch z), fun ⟨k, _, z, _⟩ => absurd z (Nat.not_lt_zero _)⟩, Nat.le_refl _⟩ fun j v e hg ⟨hv, vl⟩ => by
    have jl : j < (m_law_search_L5x t).length := (List.getElem?_eq_some_iff.mp hg).1
    obtain ⟨q1, q2, q3, q4⟩ := items_ok n1 (t := ((t, v), e)) h0 (ho e (hx5 e (List.mem_of_getElem? hg))) (by show v.length ≤ 10000; omega)
    refine ⟨⟨q1, q2, trivial⟩, fun x => ?_, ?_⟩
    · show x ∈ m_law_search_L6 ((t, v), e) ↔ _
      rw [q3 x, show x ∈ ((t, v), e).1.2 ↔ x ∈ v from Iff.rfl, hv x]
      constructor
      · rintro (⟨k, e2, a, b, c⟩ | q)
        · exact ⟨k, e2, by omega, b, c⟩
        · exact ⟨j, e, by omega, hg, q⟩
      · rintro ⟨k, e2, a, b, c⟩
        by_cases w : k < j
        · exact .inl ⟨k, e2, w, b, c⟩
        · have : k = j := by omega
          subst this
          rw [hg] at b
          injection b with b
          rw [← b] at c
          exact .inr c
    · have q4' : (m_law_search_L6 ((t, v), e)).length ≤ v.length + 8 := q4
      show (m_law_search_L6 ((t, v), e)).length ≤ _
      omega
  obtain ⟨lc, l1, l2⟩ := main
  have eL : m_law_search_L5 t = loopF (fun m x => m_law_search_L5s ((t, m), x)) (m_law_search_L5x t) (m_law_search_L5i t) := by unfold m_law_search_L5; rw [LoopF_eq]
  rw [← eL] at l1 l2
  have e15 : m_law_search_v_layer_15 t = uqL (dfT3 (dfSeq dfBool) (dfSeq dfBool) (dfOpt dfInt)).dec (m_law_search_L5 t) := by
    unfold m_law_search_v_layer_15
    exact congrArg _ (mapfst _)
  refine ⟨lc, fun h3 x => ?_, ?_⟩
  · rw [e15, mem_uqL, l1 x]
    have ex : m_law_search_L5x t = t.1.2 := by
      unfold m_law_search_L5x
      rw [if_pos (decide_eq_true h3)]
    rw [ex]
    constructor
    · rintro ⟨k, e, _, b, c⟩
      exact ⟨e, List.mem_of_getElem? b, c⟩
    · rintro ⟨e, b, c⟩
      obtain ⟨k, hk⟩ := List.getElem?_of_mem b
      exact ⟨k, e, (List.getElem?_eq_some_iff.mp hk).1, hk, c⟩
  · rw [e15]
    have := len_uqL (d := (dfT3 (dfSeq dfBool) (dfSeq dfBool) (dfOpt dfInt)).dec) (xs := m_law_search_L5 t)
    omega
theorem h3_iff {t : m_law_search_L2T} : m_law_search_h3 t = true ↔ ∃ e ∈ t.1.2, e.1 = e.2.1 := by
  unfold m_law_search_h3
  have e1 : (lcV t.1.2 (fun x => (dfSeq dfBool).eq (t, x).2.1 (t, x).2.2.1) (fun x => (1 : Int))) = [] ↔ ∀ e ∈ t.1.2, ¬ e.1 = e.2.1 := by
    unfold lcV
    constructor
    · intro z e he eq
      have : (1 : Int) ∈ (t.1.2.filter fun x => (dfSeq dfBool).eq (t, x).2.1 (t, x).2.2.1).map (fun _ => (1 : Int)) := List.mem_map.mpr ⟨e, List.mem_filter.mpr ⟨he, df_t.mpr eq⟩, rfl⟩
      rw [z] at this
      cases this
    · intro z
      rw [List.map_eq_nil_iff, List.filter_eq_nil_iff]
      exact fun e he q => z e he (df_t.mp q)
  rw [Bool.not_eq_true', ← Bool.not_eq_true]
  constructor
  · intro z
    apply Classical.byContradiction
    intro w
    exact z (df_t.mpr (e1.mpr fun e he eq => w ⟨e, he, eq⟩))
  · rintro ⟨e, he, eq⟩ z
    exact e1.mp (df_t.mp z) e he eq
theorem loop_resx {M α R : Type} {step : M → α → M} {c : M → α → Prop} {r : M → α → Option R} (I : Nat → M → Prop) (P : R → Prop) : ∀ (xs : List α) (k : Nat) (m : M), I k m → (∀ j m x, xs[j]? = some x → I (k + j) m → c m x ∧ (∀ v, r m x = some v → P v) ∧ (r m x = none → I (k + j + 1) (step m x))) →
    loopCr c r step xs m ∧ (∀ v, loopR r step xs m = some v → P v) ∧ (loopR r step xs m = none → I (k + xs.length) (loopF step xs m))
  | [], k, m, h, _ => ⟨trivial, fun v e => (nomatch e), fun _ => h⟩
  | x :: xs, k, m, h, hs => by
    obtain ⟨h1, h2, h3⟩ := hs 0 m x rfl h
    cases e : r m x with
    | some v =>
      refine ⟨⟨h1, fun q => by rw [e] at q; cases q⟩, fun w q => ?_, fun q => ?_⟩
      · unfold loopR at q
        rw [e] at q
        cases q
        exact h2 v e
      · unfold loopR at q
        rw [e] at q
        cases q
    | none =>
      obtain ⟨h4, h5, h6⟩ := loop_resx I P xs (k + 1) (step m x) (h3 e) fun j m y hy hi => by
        have := hs (j + 1) m y hy (by rw [show k + (j + 1) = k + 1 + j by omega]; exact hi)
        rw [show k + (j + 1) + 1 = k + 1 + j + 1 by omega] at this
        exact this
      refine ⟨⟨h1, fun _ => h4⟩, fun w q => ?_, fun q => ?_⟩
      · unfold loopR at q
        rw [e] at q
        exact h5 w q
      · unfold loopR at q
        rw [e] at q
        rw [show k + (x :: xs).length = k + 1 + xs.length by simp; omega]
        exact h6 q
def gap (ms ns : List Bool) : Bool := (rangeL ms.length).any fun g => !dif (ms, ns, none) g
def spec (ms ns : List Bool) : Option Int := if ms = ns then some 0 else if (dif (ms, ns, none) 0 && dif (ms, ns, none) ((ms.length : Int) - 1)) = false then some 2 else if gap ms ns = true then some 3 else none
/-- what the search finds -/
theorem search_ok {n : Nat} (n0 : 1 ≤ n) (n1 : n ≤ 4) {ms ns : List Bool} (hm : ms.length = n) (hn : ns.length = n) : m_law_search_p ((n : Int), ms, ns, ()) ∧ m_law_search ((n : Int), ms, ns, ()) = spec ms ns := by
  obtain ⟨s, es⟩ : ∃ s : m_law_search_S, s = ((n : Int), ms, ns, ()) := ⟨_, rfl⟩
  rw [← es]
  have s1 : s.1 = (n : Int) := by rw [es]
  obtain ⟨e0, ee⟩ : ∃ e0 : Tr, e0 = (ms, ns, none) := ⟨_, rfl⟩
  have ok0 : OkT n e0 := by rw [ee]; exact ⟨hm, hn, fun a z => (nomatch z)⟩
  have a0 : e0.2.2 = none := by rw [ee]
  have c1 : e0.1 = ms := by rw [ee]
  have c2 : e0.2.1 = ns := by rw [ee]
  have n100 : n ≤ 100 := by omega
  have gapI : gap ms ns = true ↔ ∃ g : Int, 0 ≤ g ∧ g < n ∧ dif e0 g = false := by
    unfold gap
    rw [List.any_eq_true, ee, hm]
    constructor
    · rintro ⟨g, h1, h2⟩
      obtain ⟨g0, g1⟩ := mem_range.mp h1
      exact ⟨g, g0, g1, by simpa using h2⟩
    · rintro ⟨g, g0, g1, h2⟩
      exact ⟨g, mem_range.mpr ⟨g0, g1⟩, by rw [h2]; rfl⟩
  have spE : spec ms ns = if e0.1 = e0.2.1 then some 0 else if (dif e0 0 && dif e0 ((n : Int) - 1)) = false then some 2 else if gap ms ns = true then some 3 else none := by
    unfold spec
    rw [ee, hm]
  have ends : ∀ {k : Nat}, 1 ≤ k → e0.1 ≠ e0.2.1 → k = 2 → (∃ x, Rc n e0 k x ∧ x.1 = x.2.1) → (dif e0 0 && dif e0 ((n : Int) - 1)) = false := fun {k} _ ne ek q => by
    subst ek
    apply Classical.byContradiction
    intro z
    have z := Bool.and_eq_true_iff.mp (Bool.not_eq_false _ ▸ z)
    exact eq2 n100 ok0 a0 ne n0 z.1 z.2 q
  have main := loop_resx (c := fun m x => m_law_search_L2c ((s, m), x)) (r := fun m x => m_law_search_L2r ((s, m), x)) (step := fun m x => m_law_search_L2s ((s, m), x))
      (fun j (m : m_law_search_L2M) => ((1 ≤ j → e0.1 ≠ e0.2.1) ∧ (3 ≤ j → (dif e0 0 && dif e0 ((n : Int) - 1)) = true) ∧ (4 ≤ j → gap ms ns = false)) ∧ (j ≤ 3 → (∀ x, x ∈ m ↔ Rc n e0 j x) ∧ m.length ≤ 8 ^ j)) (fun v => v = spec ms ns) (m_law_search_L2x s) 0 (m_law_search_L2i s)
      ⟨⟨fun z => absurd z (by omega), fun z => absurd z (by omega), fun z => absurd z (by omega)⟩, fun _ => ⟨fun x => by
        show x ∈ [(s.2.1, s.2.2.1, (none : Option Int))] ↔ x = e0
        rw [es, ee]
        exact List.mem_singleton, by show 1 ≤ 1; omega⟩⟩ fun j m x hg ⟨⟨f1, f3, f4⟩, hj⟩ => by
    rw [Nat.zero_add] at f1 f3 f4 hj ⊢
    obtain ⟨ex, j4, _, _⟩ := range_get (n := 4) hg
    obtain ⟨hmem, hlen⟩ := hj (by omega)
    have h3 : m.length ≤ 512 := Nat.le_trans hlen (Nat.le_trans (Nat.pow_le_pow_right (by decide) (show j ≤ 3 by omega)) (by decide))
    obtain ⟨t, et⟩ : ∃ t : m_law_search_L2T, t = ((s, m), x) := ⟨_, rfl⟩
    rw [← et]
    have t0 : t.1.1 = s := by rw [et]
    have t1 : t.1.2 = m := by rw [et]
    have t2 : t.2 = x := by rw [et]
    obtain ⟨lc, lm, ll⟩ := layer_ok n1 (t := t) (by rw [t0, s1]) (fun e he => rc_ok n100 ok0 ((hmem e).mp (t1 ▸ he))) (by rw [t1]; exact h3)
    have hh : m_law_search_h3 t = true ↔ ∃ x, Rc n e0 j x ∧ x.1 = x.2.1 := by
      rw [h3_iff, t1]
      exact ⟨fun ⟨e, a, b⟩ => ⟨e, (hmem e).mp a, b⟩, fun ⟨e, a, b⟩ => ⟨e, (hmem e).mpr a, b⟩⟩
    have er : m_law_search_L2r t = if m_law_search_h3 t = true then some (some x) else none := by
      unfold m_law_search_L2r
      rw [t2]
      split <;> rfl
    refine ⟨⟨fun e _ => ⟨trivial, fun _ => trivial⟩, fun _ => ⟨lc, fun e _ => ⟨trivial, fun _ => trivial⟩, trivial⟩, trivial⟩, fun v hv => ?_, fun hv => ?_⟩
    · have hv' : m_law_search_L2r t = some v := hv
      rw [er] at hv'
      split at hv'
      · rename_i ht
        injection hv' with hv'
        have q := hh.mp ht
        rw [← hv', spE, ex]
        have cs : j = 0 ∨ j = 1 ∨ j = 2 ∨ j = 3 := by omega
        rcases cs with rfl | rfl | rfl | rfl
        · obtain ⟨y, hy, eq⟩ := q
          rw [show y = e0 from hy] at eq
          rw [if_pos eq]; rfl
        · exact absurd (eq1 n100 ok0 a0 q) (f1 (by omega))
        · rw [if_neg (f1 (by omega)), if_pos (ends (by omega) (f1 (by omega)) rfl q)]; rfl
        · have d := f3 (by omega)
          rw [if_neg (f1 (by omega)), if_neg (by rw [d]; exact fun z => nomatch z), if_pos ?_]
          · rfl
          · apply Classical.byContradiction
            intro z
            refine none3 n100 ok0 a0 n0 (fun p p0 p1 => ?_) 3 q
            apply Classical.byContradiction
            intro w
            exact z (gapI.mpr ⟨p, p0, p1, by simpa using w⟩)
      · cases hv'
    · have hv' : m_law_search_L2r t = none := hv
      rw [er] at hv'
      split at hv'
      · cases hv'
      · rename_i ht
        have q : ¬ ∃ x, Rc n e0 j x ∧ x.1 = x.2.1 := fun z => ht (hh.mpr z)
        refine ⟨⟨fun _ => ?_, fun w => ?_, fun w => ?_⟩, fun w => ⟨fun y => ?_, ?_⟩⟩
        · by_cases w : 1 ≤ j
          · exact f1 w
          · have : j = 0 := by omega
            subst this
            exact fun eq => q ⟨e0, rfl, eq⟩
        · by_cases w2 : 3 ≤ j
          · exact f3 w2
          · have : j = 2 := by omega
            subst this
            apply Classical.byContradiction
            intro z
            refine q (got2 n100 ok0 a0 n0 ?_)
            cases hd : dif e0 0 with
            | false => exact .inl rfl
            | true =>
              cases hd2 : dif e0 ((n : Int) - 1) with
              | false => exact .inr rfl
              | true => exact absurd (by rw [hd, hd2]; rfl) z
        · have : j = 3 := by omega
          subst this
          cases hgp : gap ms ns with
          | false => rfl
          | true =>
            obtain ⟨g, g0, g1, hd⟩ := gapI.mp hgp
            exact absurd (got3 n100 ok0 a0 n0 g0 g1 hd) q
        · show y ∈ m_law_search_v_layer_15 t ↔ ∃ e, Rc n e0 j e ∧ nx n e y
          rw [lm (by rw [t2]; omega) y, t1]
          exact ⟨fun ⟨e, a, b⟩ => ⟨e, (hmem e).mp a, b⟩, fun ⟨e, a, b⟩ => ⟨e, (hmem e).mpr a, b⟩⟩
        · show (m_law_search_v_layer_15 t).length ≤ 8 ^ (j + 1)
          rw [t1] at ll
          rw [Nat.pow_succ]
          omega
  obtain ⟨lc, l1, l2⟩ := main
  have eL : m_law_search_L2R s = loopR (fun m x => m_law_search_L2r ((s, m), x)) (fun m x => m_law_search_L2s ((s, m), x)) (m_law_search_L2x s) (m_law_search_L2i s) := by unfold m_law_search_L2R; rw [LoopR_eq]
  refine ⟨⟨rg_ok (by decide) (by decide), lc, fun _ => trivial, trivial⟩, ?_⟩
  unfold m_law_search
  rw [hide_eq]
  cases hr : m_law_search_L2R s with
  | some v =>
    rw [eL] at hr
    exact l1 v hr
  | none =>
    rw [eL] at hr
    obtain ⟨⟨f1, f3, f4⟩, _⟩ := l2 hr
    have ln : (m_law_search_L2x s).length = 4 := by unfold m_law_search_L2x; rw [rangeL_len]; rfl
    rw [ln] at f1 f3 f4
    show none = _
    rw [spE, if_neg (f1 (by omega)), if_neg (by rw [f3 (by omega)]; exact fun z => nomatch z), if_neg (by rw [f4 (by omega)]; exact Bool.false_ne_true)]
end Lw

/-! what is due, for all marks of up to four items -/
namespace Lw
open PySem PySem.Spec PyProof PyProof.Rows L2 Dx
def xorM (ms ns : List Bool) : List Bool := List.zipWith (fun a b => a != b) ms ns
set_option maxHeartbeats 4000000 in
theorem due_fin : ∀ n ∈ [1, 2, 3, 4], ∀ ms ∈ allB n, ∀ ns ∈ allB n, Sx.dueM (n : Int) (runsOf (xorM ms ns)) = spec ms ns := by decide +kernel
set_option maxHeartbeats 4000000 in
theorem gap_fin : ∀ n ∈ [1, 2, 3, 4], ∀ ms ∈ allB n, ∀ ns ∈ allB n, ((lcV (List.zip ms ns) (fun x => (dfBool).eq x.1 x.2) (fun _ => (1 : Int))) = [] → (spec ms ns).isSome = false) ∧ ∀ v ∈ spec ms ns, 0 ≤ v ∧ v ≤ 3 := by decide +kernel
theorem diff_runs {ms ns : List Bool} (h0 : 1 ≤ ms.length) (h1 : ms.length ≤ 4) (hn : ns.length = ms.length) : Sx.diffS (runsOf ms) (runsOf ns) = runsOf (xorM ms ns) := by
  obtain ⟨a, b⟩ := runs_sel h0 h1
  obtain ⟨a', b'⟩ := runs_sel (ms := ns) (by omega) (by omega)
  rw [hn] at a' b'
  have hl : (xorM ms ns).length = ms.length := by unfold xorM; rw [List.length_zipWith]; omega
  obtain ⟨c, d⟩ := runs_sel (ms := xorM ms ns) (by omega) (by omega)
  rw [hl] at c d
  refine Sx.sel_uniq (Sx.sel_diff a a') c fun p p0 p1 => ?_
  rw [Sx.inR_diff a a', b p p0 p1, b' p p0 p1, d p p0 p1]
  have e : p = ((p.toNat : Nat) : Int) := by omega
  have hlt : p.toNat < ms.length := by omega
  have hlt2 : p.toNat < ns.length := by omega
  rw [e, ix_natB, ix_natB, ix_natB, List.getD_eq_getElem?_getD, List.getD_eq_getElem?_getD, List.getD_eq_getElem?_getD]
  unfold xorM
  rw [List.getElem?_zipWith, List.getElem?_eq_getElem hlt, List.getElem?_eq_getElem hlt2]
  rfl
theorem meet_dueM {n : Int} {l k : List (Int × Int)} (n1 : 1 ≤ n) (n2 : n ≤ 1000000000000000000000000000000) (hl : Sx.Sel n l) (hk : Sx.Sel n k) (ll : l.length ≤ 1000) (lk : k.length ≤ 1000) : mfewest_to_meet_p (n, l, k, ()) ∧ mfewest_to_meet (n, l, k, ()) = Sx.dueM n (Sx.diffS l k) := by
  obtain ⟨p1, e1⟩ := meet_O hl hk ll lk
  have ec : mmeeting_clicks (n, l, k, ()) = Sx.meetC n (Sx.diffS l k) := by
    unfold mmeeting_clicks
    rw [hide_eq]
    exact e1
  have e2 : mfewest_to_meet_c1 (n, l, k, ()) = Sx.meetC n (Sx.diffS l k) := ec
  refine ⟨⟨⟨both_ok n1 n2 hl hk, p1, trivial⟩, fun z => ?_, trivial⟩, ?_⟩
  · have z' : (mfewest_to_meet_c1 (n, l, k, ())).isNone = false := z
    show (mfewest_to_meet_c1 (n, l, k, ())).isSome = true
    cases hq : mfewest_to_meet_c1 (n, l, k, ()) with
    | none => rw [hq] at z'; cases z'
    | some v => rfl
  · unfold mfewest_to_meet
    rw [hide_eq, e2, ← Sx.due_meet]
    cases Sx.meetC n (Sx.diffS l k) <;> rfl
theorem optl_show {v : Option Int} (h : ∀ a, v = some a → 0 ≤ a ∧ a ≤ 3) : ShowOk (dfList (dfOpt dfInt)) [v, v] := by
  refine Wd.list_show (d := dfOpt dfInt) (fun c hc => ?_) (by simp)
  have hc : c = v := by simpa using hc
  subst hc
  cases c with
  | none => exact ⟨rfl, by decide⟩
  | some a =>
    obtain ⟨h0, h1⟩ := h a rfl
    obtain ⟨x, y⟩ := Wd.int_show (v := a) h0 (by omega)
    exact ⟨x, by show (PyData.int a).shown.length ≤ 4000; omega⟩
theorem right_ok {ms ns : List Bool} (h0 : 1 ≤ ms.length) (h1 : ms.length ≤ 4) (hn : ns.length = ms.length) : m_law_right_p ((ms.length : Int), ms, ns, ()) ∧ m_law_right ((ms.length : Int), ms, ns, ()) = true := by
  obtain ⟨s, es⟩ : ∃ s : m_law_right_S, s = ((ms.length : Int), ms, ns, ()) := ⟨_, rfl⟩
  rw [← es]
  have s1 : s.1 = (ms.length : Int) := by rw [es]
  have s2 : s.2.1 = ms := by rw [es]
  have s3 : s.2.2.1 = ns := by rw [es]
  have hl := (runs_sel h0 h1).1
  have hk := (runs_sel (ms := ns) (by omega) (by omega)).1
  rw [hn] at hk
  obtain ⟨l, el⟩ : ∃ l, l = runsOf ms := ⟨_, rfl⟩
  obtain ⟨k, ek⟩ : ∃ k, k = runsOf ns := ⟨_, rfl⟩
  have eW := diff_runs h0 h1 hn
  rw [← el] at hl eW
  rw [← ek] at hk eW
  have ll : l.length ≤ 4 := by
    have := sel_len hl 0 (Int.le_refl 0) fun r hr => (hl.1 r hr).1
    omega
  have lk : k.length ≤ 4 := by
    have := sel_len hk 0 (Int.le_refl 0) fun r hr => (hk.1 r hr).1
    omega
  obtain ⟨f1, f2⟩ := meet_dueM (by omega) (by omega) hl hk (by omega) (by omega)
  have mn : ms ∈ allB ms.length := mem_allB ms
  have nn : ns ∈ allB ms.length := hn ▸ mem_allB ns
  rw [eW, due_fin ms.length (mem14 h0 h1) ms mn ns nn] at f2
  obtain ⟨g1, g2⟩ := gap_fin ms.length (mem14 h0 h1) ms mn ns nn
  obtain ⟨q1, q2⟩ := search_ok h0 h1 (ms := ms) (ns := ns) rfl hn
  have e1 : m_law_right_c1 s = spec ms ns := by unfold m_law_right_c1; rw [s1, s2, s3]; exact q2
  have e2 : m_law_right_v_segments_2 s = (rangeL ms.length).map fun x => (x, x) := by
    unfold m_law_right_v_segments_2
    rw [lcV_t, s1]
  have e3 : m_law_right_c3 s = l := by unfold m_law_right_c3; rw [e2, s2, el]; rfl
  have e4 : m_law_right_c4 s = k := by unfold m_law_right_c4; rw [e2, s3, ek, ← hn]; rfl
  have e6 : m_law_right_c6 s = spec ms ns := by unfold m_law_right_c6; rw [e3, e4, s1]; exact f2
  have e7 : m_law_right_c7 s = spec ms ns := by unfold m_law_right_c7; rw [e3, e4, s1]; exact f2
  have e8 : m_law_right_v_told_8 s = [spec ms ns, spec ms ns] := by unfold m_law_right_v_told_8; rw [e6, e7]
  have sh : ShowOk (dfList (dfList (dfT2 dfInt dfInt))) [l, k] := pair_show (fine_sel (by omega) hl (by omega)) (fine_sel (by omega) hk (by omega))
  have so := optl_show (v := spec ms ns) fun a ea => g2 a ea
  have dead : (((dfList dfInt)).eq (lcV (List.zip s.2.1 s.2.2.1) (fun x => ((dfBool).eq (s, x).2.1 (s, x).2.2)) (fun x => (1 : Int))) ([] : List Int) && ((m_law_right_c1 s)).isSome) = false := by
    rw [e1, s2, s3]
    cases hq : (dfList dfInt).eq (lcV (List.zip ms ns) (fun x => ((dfBool).eq (s, x).2.1 (s, x).2.2)) (fun x => (1 : Int))) ([] : List Int) with
    | false => rfl
    | true => rw [g1 (df_t.mp hq)]; rfl
  refine ⟨⟨?_, fun x _ => ⟨trivial, fun _ => trivial⟩, ?_, ?_, ?_, ?_, ?_, ?_, fun x _ => ⟨trivial, fun _ => trivial⟩, ?_, trivial⟩, ?_⟩
  · show RgOk s.1
    rw [s1]; exact rg_ok (by omega) (by omega)
  · show m_law_search_p (s.1, s.2.1, s.2.2.1, ())
    rw [s1, s2, s3]; exact q1
  · show m_law_runs_p (m_law_right_v_segments_2 s, s.2.1, ())
    rw [e2, s2]; exact runs_pre (by omega) rfl
  · show m_law_runs_p (m_law_right_v_segments_2 s, s.2.2.1, ())
    rw [e2, s3, ← hn]; exact runs_pre (by omega) rfl
  · show ShowOk (dfList (dfList (dfT2 dfInt dfInt))) [m_law_right_c3 s, m_law_right_c4 s]
    rw [e3, e4]; exact sh
  · show mfewest_to_meet_p (s.1, m_law_right_c3 s, m_law_right_c4 s, ())
    rw [e3, e4, s1]; exact f1
  · show mfewest_to_meet_p (s.1, m_law_right_c3 s, m_law_right_c4 s, ())
    rw [e3, e4, s1]; exact f1
  · show if _ then _ else _
    rw [dead, if_neg Bool.false_ne_true]
    refine ⟨?_, ?_, fun _ => ?_, trivial⟩
    · show ShowOk (dfList (dfOpt dfInt)) (m_law_right_v_told_8 s)
      rw [e8]; exact so
    · show ShowOk (dfList (dfOpt dfInt)) [m_law_right_c1 s, m_law_right_c1 s]
      rw [e1]; exact so
    · show ShowOk (dfList (dfList (dfT2 dfInt dfInt))) [m_law_right_c3 s, m_law_right_c4 s]
      rw [e3, e4]; exact sh
  · unfold m_law_right
    rw [hide_eq, dead, if_neg Bool.false_ne_true, e8, e1]
    unfold m_law_right_v_before_5
    simp
end Lw

namespace Lw
open PySem PySem.Spec PyProof PyProof.Rows L2 Dx
theorem lcE_all {M α β : Type} {fe : M → α → β} {st : M → α → M} {P : β → Prop} (h : ∀ m x, P (fe m x)) : ∀ (xs : List α) (m : M), ∀ y ∈ lcE fe st xs m, P y
  | [], m, y, hy => nomatch hy
  | x :: xs, m, y, hy => by
    rcases List.mem_cons.mp hy with rfl | hy
    · exact h m x
    · exact lcE_all h xs _ y hy
theorem ix_mem {α : Type} {d : α} {xs : List α} {i n : Nat} (h : xs.length = n) (hi : i < n) : ixI d xs (i : Int) ∈ xs := by
  rw [ix_natB, List.getD_eq_getElem?_getD, List.getElem?_eq_getElem (by omega)]
  exact List.getElem_mem _
theorem turn_ok {k : Nat} {t : mlaw_L4T} (g : Good k t.1.2) (hk : k ≤ 100000) : mlaw_L4c t ∧ mlaw_L4r t = none ∧ Good (k + 100) (mlaw_L4s t) := by
  obtain ⟨d, ed⟩ : ∃ d : Int, (if (((dfList dfInt)).eq t.1.1.1.1.1 ([] : List Int)) = true then (3 : Int) else (4 : Int)) = d := ⟨_, rfl⟩
  have hd : d = 3 ∨ d = 4 := by rw [← ed]; split; exact .inl rfl; exact .inr rfl
  obtain ⟨p5, g5, a5, b5⟩ := draw (c := d) g (by omega) (by omega) (by rcases hd with e | e <;> rw [e] <;> decide)
  have f5 : m_law_draw (t.1.2, d, ()) = mlaw_c5 t := by rw [← ed]; rfl
  rw [f5] at g5 a5 b5
  have e6 : mlaw_v_size_6 t = 1 + (mlaw_c5 t).2 := rfl
  obtain ⟨n, en⟩ : ∃ n : Nat, mlaw_v_size_6 t = (n : Int) := ⟨(mlaw_v_size_6 t).toNat, by omega⟩
  have hn : 1 ≤ n ∧ n ≤ 4 := by omega
  have hrl : (rangeL (mlaw_v_size_6 t)).length = n := by rw [rangeL_len, en]; omega
  have row : ∀ (j : Nat) (m : List Int) (x : Int), Good j m → j ≤ 200000 → loopC (fun m1 x1 => Conj [fun s => m_law_draw_p (s.1.2, (2 : Int), ())] (((((t, m), x), m1), x1) : (((mlaw_L4T × (List Int)) × Int) × (List Int)) × Int)) (fun m1 x1 => (mlaw_c7 ((((t, m), x), m1), x1)).1) (rangeL (mlaw_v_size_6 t)) m ∧
      Good (j + n) (loopF (fun m1 x1 => (mlaw_c7 ((((t, m), x), m1), x1)).1) (rangeL (mlaw_v_size_6 t)) m) := fun j m x gm hj => by
    have main := loop_inv (c := fun m1 x1 => Conj [fun s => m_law_draw_p (s.1.2, (2 : Int), ())] (((((t, m), x), m1), x1) : (((mlaw_L4T × (List Int)) × Int) × (List Int)) × Int)) (step := fun m1 x1 => (mlaw_c7 ((((t, m), x), m1), x1)).1) (fun i b => Good (j + i) b) (rangeL (mlaw_v_size_6 t)) 0 m gm fun i m1 x1 _ hi _ h => by
      obtain ⟨p, g, _, _⟩ := draw (c := 2) h (by omega) (by decide) (by decide)
      exact ⟨⟨p, trivial⟩, g⟩
    rw [Nat.zero_add, hrl] at main
    exact main
  have main := loop_inv (c := fun m x => Conj [fun s => RgOk (mlaw_v_size_6 s.1.1), fun s => loopC (fun m x => Conj [fun s => m_law_draw_p (s.1.2, (2 : Int), ())] ((s, m), x)) (fun m x => (mlaw_c7 ((s, m), x)).1) (rangeL (mlaw_v_size_6 s.1.1)) s.1.2] (((t, m), x) : (mlaw_L4T × (List Int)) × Int))
      (step := fun m x => (LoopF (fun m1 x1 => (mlaw_c7 ((((t, m), x), m1), x1)).1) (rangeL (mlaw_v_size_6 ((t, m), x).1.1)) ((t, m), x).1.2)) (fun j b => Good (k + 1 + 4 * j) b) (rangeL (2 : Int)) 0 (mlaw_c5 t).1 g5 fun j m x _ hj _ h => by
    have hj' : j < 2 := by
      have : (rangeL (2 : Int)).length = 2 := by rw [rangeL_len]; rfl
      omega
    obtain ⟨r1, r2⟩ := row _ m x h (by omega)
    refine ⟨⟨?_, r1, trivial⟩, ?_⟩
    · show RgOk (mlaw_v_size_6 t)
      rw [en]; exact rg_ok (by omega) (by omega)
    · rw [LoopF_eq]
      exact r2.mono (by omega)
  obtain ⟨lc, lf⟩ := main
  rw [Nat.zero_add, show (rangeL (2 : Int)).length = 2 by rw [rangeL_len]; rfl] at lf
  have e8 : mlaw_v_pool_here_8 t = loopF (fun m x => (LoopF (fun m1 x1 => (mlaw_c7 ((((t, m), x), m1), x1)).1) (rangeL (mlaw_v_size_6 ((t, m), x).1.1)) ((t, m), x).1.2)) (rangeL (2 : Int)) (mlaw_c5 t).1 := by unfold mlaw_v_pool_here_8; rw [LoopF_eq]
  rw [← e8] at lf
  have e9 : (mlaw_v_sides_9 t).length = 2 := by unfold mlaw_v_sides_9; rw [LcE_eq, lcE_len, rangeL_len]; rfl
  have e9a : ∀ y ∈ mlaw_v_sides_9 t, y.length = n := by
    unfold mlaw_v_sides_9
    rw [LcE_eq]
    refine lcE_all (fun m x => ?_) _ _
    show (LcE _ _ (rangeL (mlaw_v_size_6 t)) m).length = n
    rw [LcE_eq, lcE_len, hrl]
  have l0 := e9a _ (ix_mem (d := ([] : List Bool)) e9 (i := 0) (by decide))
  have l1 := e9a _ (ix_mem (d := ([] : List Bool)) e9 (i := 1) (by decide))
  obtain ⟨ms, em⟩ : ∃ ms, ms = ixI ([] : List Bool) (mlaw_v_sides_9 t) (0 : Int) := ⟨_, rfl⟩
  obtain ⟨ns, eq⟩ : ∃ ns, ns = ixI ([] : List Bool) (mlaw_v_sides_9 t) (1 : Int) := ⟨_, rfl⟩
  have lm : ms.length = n := by rw [em]; exact l0
  have ln : ns.length = n := by rw [eq]; exact l1
  obtain ⟨r1, r2⟩ := right_ok (ms := ms) (ns := ns) (by omega) (by omega) (by omega)
  rw [lm] at r1 r2
  have c10 : mlaw_c10 t = true := by unfold mlaw_c10; rw [en, ← em, ← eq]; exact r2
  have e11 : mlaw_h11 t = false := by unfold mlaw_h11; rw [c10]; rfl
  refine ⟨⟨?_, rg_ok (by decide) (by decide), lc, ixOk2 e9 (by decide) (by decide), ixOk2 e9 (by decide) (by decide), ?_, fun _ => trivial, trivial⟩, ?_, ?_⟩
  · show m_law_draw_p (t.1.2, (if (((dfList dfInt)).eq t.1.1.1.1.1 ([] : List Int)) = true then (3 : Int) else (4 : Int)), ())
    rw [ed]; exact p5
  · show m_law_right_p (mlaw_v_size_6 t, ixI ([] : List Bool) (mlaw_v_sides_9 t) 0, ixI ([] : List Bool) (mlaw_v_sides_9 t) 1, ())
    rw [en, ← em, ← eq]; exact r1
  · unfold mlaw_L4r
    rw [e11]
    rfl
  · show Good _ (mlaw_v_pool_here_8 t)
    exact lf.mono (by omega)
theorem law_main (ns : List Int) (hl : ns.length ≤ 63) : mlaw_p (ns, ()) ∧ mlaw (ns, ()) = true := by
  obtain ⟨s, es⟩ : ∃ s : mlaw_S, s = (ns, ()) := ⟨_, rfl⟩
  rw [← es]
  have main := loop_none (c := fun m x => mlaw_L1c ((s, m), x)) (r := fun m x => mlaw_L1r ((s, m), x)) (step := fun m x => mlaw_L1s ((s, m), x)) (fun _ _ => True) (mlaw_L1x s) 0 (mlaw_L1i s) trivial fun j m x _ hm _ => by
    obtain ⟨t, et⟩ : ∃ t : mlaw_L1T, t = ((s, m), x) := ⟨_, rfl⟩
    rw [← et]
    have t2 : t.2 = x := by rw [et]
    have hx : 0 ≤ x ∧ x < 1000 := by
      have := mem_range.mp (show x ∈ rangeL _ from hm)
      omega
    obtain ⟨pp, gp⟩ := pool_ok (c := mlaw_c2 t) hx.1 hx.2
    have inner := loop_none (c := fun m x => mlaw_L4c ((t, m), x)) (r := fun m x => mlaw_L4r ((t, m), x)) (step := fun m x => mlaw_L4s ((t, m), x)) (fun k b => Good (100 * k) b) (mlaw_L4x t) 0 (mlaw_L4i t) (by
      show Good 0 (m_law_pool (mlaw_c2 t, t.2, ()))
      rw [t2]; exact gp) fun j b y hj _ hb => by
      have hj' : j < 10 := by
        have : (mlaw_L4x t).length = 10 := by
          unfold mlaw_L4x
          rw [rangeL_len]
          rfl
        omega
      obtain ⟨o1, o2, o3⟩ := turn_ok (t := ((t, b), y)) hb (by omega)
      exact ⟨o1, o2, o3.mono (by omega)⟩
    obtain ⟨lc, lr⟩ := inner
    rw [← LoopR_eq] at lr
    have lr' : mlaw_L4R t = none := lr
    refine ⟨⟨?_, ?_, rg_ok (by decide) (by decide), lc, fun _ => trivial, trivial⟩, ?_, trivial⟩
    · show m_law_cell_at_p (t.1.1.1, t.2, ())
      rw [t2]; exact cell_pre _ _ hx.1
    · show m_law_pool_p (mlaw_c2 t, t.2, ())
      rw [t2]; exact pp
    · unfold mlaw_L1r
      rw [lr']
      rfl
  obtain ⟨lc, lr⟩ := main
  rw [← LoopR_eq] at lr
  have lr' : mlaw_L1R s = none := lr
  refine ⟨⟨?_, lc, fun _ => trivial, trivial⟩, ?_⟩
  · show RgOk (max (1 : Int) (min (4 : Int) (s.1.length : Int)))
    exact rg_ok (by omega) (by omega)
  · unfold mlaw
    rw [hide_eq, lr']
    rfl
theorem law_pre (ns : List Int) (hl : ns.length ≤ 63) (hb : ∀ z ∈ ns, Builtin.Int.intBits z ≤ 1048576) : mlaw_p (ns, ()) := (law_main ns hl).1
theorem law_true (ns : List Int) (hl : ns.length ≤ 63) (hb : ∀ z ∈ ns, Builtin.Int.intBits z ≤ 1048576) : mlaw (ns, ()) = true := (law_main ns hl).2
end Lw

namespace Lw
open PySem PySem.Spec PyProof.Rows L2 Dx
section
theorem all_mk {l : PySem.W.OpenLaw} {w : World} {K : PySem.W.Frag} {h : Heap} {mg : Str → Option Value} {fa : Addr} {f22 : Addr} {od22 an22 : Option Addr} {sl22 : Array (Option Value)} {oc22 kV22 dc22 pm22 cd22 ct22 : Value} {f23 : Addr} {od23 an23 : Option Addr} {sl23 : Array (Option Value)} {oc23 kV23 dc23 pm23 cd23 ct23 : Value} {f24 : Addr} {od24 an24 : Option Addr} {sl24 : Array (Option Value)} {oc24 kV24 dc24 pm24 cd24 ct24 : Value} {f26 : Addr} {od26 an26 : Option Addr} {sl26 : Array (Option Value)} {oc26 kV26 dc26 pm26 cd26 ct26 : Value} {f27 : Addr} {od27 an27 : Option Addr} {sl27 : Array (Option Value)} {oc27 kV27 dc27 pm27 cd27 ct27 : Value} {f25 : Addr} {od25 an25 : Option Addr} {sl25 : Array (Option Value)} {oc25 kV25 dc25 pm25 cd25 ct25 : Value} {f6 : Addr} {od6 an6 : Option Addr} {sl6 : Array (Option Value)} {oc6 kV6 dc6 pm6 cd6 ct6 : Value} {f7 : Addr} {od7 an7 : Option Addr} {sl7 : Array (Option Value)} {oc7 kV7 dc7 pm7 cd7 ct7 : Value} {f8 : Addr} {od8 an8 : Option Addr} {sl8 : Array (Option Value)} {oc8 kV8 dc8 pm8 cd8 ct8 : Value} {f9 : Addr} {od9 an9 : Option Addr} {sl9 : Array (Option Value)} {oc9 kV9 dc9 pm9 cd9 ct9 : Value} {f10 : Addr} {od10 an10 : Option Addr} {sl10 : Array (Option Value)} {oc10 kV10 dc10 pm10 cd10 ct10 : Value} {f17 : Addr} {od17 an17 : Option Addr} {sl17 : Array (Option Value)} {oc17 kV17 dc17 pm17 cd17 ct17 : Value} {f11 : Addr} {od11 an11 : Option Addr} {sl11 : Array (Option Value)} {oc11 kV11 dc11 pm11 cd11 ct11 : Value} {f12 : Addr} {od12 an12 : Option Addr} {sl12 : Array (Option Value)} {oc12 kV12 dc12 pm12 cd12 ct12 : Value} {f16 : Addr} {od16 an16 : Option Addr} {sl16 : Array (Option Value)} {oc16 kV16 dc16 pm16 cd16 ct16 : Value} {f18 : Addr} {od18 an18 : Option Addr} {sl18 : Array (Option Value)} {oc18 kV18 dc18 pm18 cd18 ct18 : Value} {f19 : Addr} {od19 an19 : Option Addr} {sl19 : Array (Option Value)} {oc19 kV19 dc19 pm19 cd19 ct19 : Value} {f20 : Addr} {od20 an20 : Option Addr} {sl20 : Array (Option Value)} {oc20 kV20 dc20 pm20 cd20 ct20 : Value} {f28 : Addr} {od28 an28 : Option Addr} {sl28 : Array (Option Value)} {oc28 kV28 dc28 pm28 cd28 ct28 : Value} {f29 : Addr} {od29 an29 : Option Addr} {sl29 : Array (Option Value)} {oc29 kV29 dc29 pm29 cd29 ct29 : Value} {t_CLICK : Tok} {t_MOST_ITEMS : Tok} {t_RANGE : Tok} (X : K.In h) (G : h.Ns mainGlobals mg) (hfa : mg "law" = some (.ref fa))
    (a22 : PySem.W.nsIn K mainGlobals "_law_cell_at" = some (some (.ref f22))) (l22 : K.lookup f22 = some ⟨oc22, od22, .func (PySem.W.fnOf "_law_cell_at" "_law_cell_at" (defArgs (topS 22)) (defBody (topS 22)) (defScope (topS 22)) .none kV22 dc22 pm22 an22 cd22 ct22), sl22⟩) (c22 : PySem.W.codeIn K cd22 "_law_cell_at" = true) (k22 : PySem.W.keepIn K (.ref f22) = true)
    (a23 : PySem.W.nsIn K mainGlobals "_law_pool" = some (some (.ref f23))) (l23 : K.lookup f23 = some ⟨oc23, od23, .func (PySem.W.fnOf "_law_pool" "_law_pool" (defArgs (topS 23)) (defBody (topS 23)) (defScope (topS 23)) .none kV23 dc23 pm23 an23 cd23 ct23), sl23⟩) (c23 : PySem.W.codeIn K cd23 "_law_pool" = true) (k23 : PySem.W.keepIn K (.ref f23) = true)
    (a24 : PySem.W.nsIn K mainGlobals "_law_draw" = some (some (.ref f24))) (l24 : K.lookup f24 = some ⟨oc24, od24, .func (PySem.W.fnOf "_law_draw" "_law_draw" (defArgs (topS 24)) (defBody (topS 24)) (defScope (topS 24)) .none kV24 dc24 pm24 an24 cd24 ct24), sl24⟩) (c24 : PySem.W.codeIn K cd24 "_law_draw" = true) (k24 : PySem.W.keepIn K (.ref f24) = true)
    (a26 : PySem.W.nsIn K mainGlobals "_law_after" = some (some (.ref f26))) (l26 : K.lookup f26 = some ⟨oc26, od26, .func (PySem.W.fnOf "_law_after" "_law_after" (defArgs (topS 26)) (defBody (topS 26)) (defScope (topS 26)) .none kV26 dc26 pm26 an26 cd26 ct26), sl26⟩) (c26 : PySem.W.codeIn K cd26 "_law_after" = true) (k26 : PySem.W.keepIn K (.ref f26) = true)
    (a27 : PySem.W.nsIn K mainGlobals "_law_search" = some (some (.ref f27))) (l27 : K.lookup f27 = some ⟨oc27, od27, .func (PySem.W.fnOf "_law_search" "_law_search" (defArgs (topS 27)) (defBody (topS 27)) (defScope (topS 27)) .none kV27 dc27 pm27 an27 cd27 ct27), sl27⟩) (c27 : PySem.W.codeIn K cd27 "_law_search" = true) (k27 : PySem.W.keepIn K (.ref f27) = true)
    (a25 : PySem.W.nsIn K mainGlobals "_law_runs" = some (some (.ref f25))) (l25 : K.lookup f25 = some ⟨oc25, od25, .func (PySem.W.fnOf "_law_runs" "_law_runs" (defArgs (topS 25)) (defBody (topS 25)) (defScope (topS 25)) .none kV25 dc25 pm25 an25 cd25 ct25), sl25⟩) (c25 : PySem.W.codeIn K cd25 "_law_runs" = true) (k25 : PySem.W.keepIn K (.ref f25) = true)
    (a6 : PySem.W.nsIn K mainGlobals "is_integer" = some (some (.ref f6))) (l6 : K.lookup f6 = some ⟨oc6, od6, .func (PySem.W.fnOf "is_integer" "is_integer" (defArgs (topS 6)) (defBody (topS 6)) (defScope (topS 6)) .none kV6 dc6 pm6 an6 cd6 ct6), sl6⟩) (c6 : PySem.W.codeIn K cd6 "is_integer" = true) (k6 : PySem.W.keepIn K (.ref f6) = true)
    (a7 : PySem.W.nsIn K mainGlobals "check_items" = some (some (.ref f7))) (l7 : K.lookup f7 = some ⟨oc7, od7, .func (PySem.W.fnOf "check_items" "check_items" (defArgs (topS 7)) (defBody (topS 7)) (defScope (topS 7)) .none kV7 dc7 pm7 an7 cd7 ct7), sl7⟩) (c7 : PySem.W.codeIn K cd7 "check_items" = true) (k7 : PySem.W.keepIn K (.ref f7) = true)
    (a8 : PySem.W.nsIn K mainGlobals "is_run" = some (some (.ref f8))) (l8 : K.lookup f8 = some ⟨oc8, od8, .func (PySem.W.fnOf "is_run" "is_run" (defArgs (topS 8)) (defBody (topS 8)) (defScope (topS 8)) .none kV8 dc8 pm8 an8 cd8 ct8), sl8⟩) (c8 : PySem.W.codeIn K cd8 "is_run" = true) (k8 : PySem.W.keepIn K (.ref f8) = true)
    (a9 : PySem.W.nsIn K mainGlobals "are_runs" = some (some (.ref f9))) (l9 : K.lookup f9 = some ⟨oc9, od9, .func (PySem.W.fnOf "are_runs" "are_runs" (defArgs (topS 9)) (defBody (topS 9)) (defScope (topS 9)) .none kV9 dc9 pm9 an9 cd9 ct9), sl9⟩) (c9 : PySem.W.codeIn K cd9 "are_runs" = true) (k9 : PySem.W.keepIn K (.ref f9) = true)
    (a10 : PySem.W.nsIn K mainGlobals "check_selection" = some (some (.ref f10))) (l10 : K.lookup f10 = some ⟨oc10, od10, .func (PySem.W.fnOf "check_selection" "check_selection" (defArgs (topS 10)) (defBody (topS 10)) (defScope (topS 10)) .none kV10 dc10 pm10 an10 cd10 ct10), sl10⟩) (c10 : PySem.W.codeIn K cd10 "check_selection" = true) (k10 : PySem.W.keepIn K (.ref f10) = true)
    (a17 : PySem.W.nsIn K mainGlobals "check_both" = some (some (.ref f17))) (l17 : K.lookup f17 = some ⟨oc17, od17, .func (PySem.W.fnOf "check_both" "check_both" (defArgs (topS 17)) (defBody (topS 17)) (defScope (topS 17)) .none kV17 dc17 pm17 an17 cd17 ct17), sl17⟩) (c17 : PySem.W.codeIn K cd17 "check_both" = true) (k17 : PySem.W.keepIn K (.ref f17) = true)
    (a11 : PySem.W.nsIn K mainGlobals "borders_in" = some (some (.ref f11))) (l11 : K.lookup f11 = some ⟨oc11, od11, .func (PySem.W.fnOf "borders_in" "borders_in" (defArgs (topS 11)) (defBody (topS 11)) (defScope (topS 11)) .none kV11 dc11 pm11 an11 cd11 ct11), sl11⟩) (c11 : PySem.W.codeIn K cd11 "borders_in" = true) (k11 : PySem.W.keepIn K (.ref f11) = true)
    (a12 : PySem.W.nsIn K mainGlobals "from_borders" = some (some (.ref f12))) (l12 : K.lookup f12 = some ⟨oc12, od12, .func (PySem.W.fnOf "from_borders" "from_borders" (defArgs (topS 12)) (defBody (topS 12)) (defScope (topS 12)) .none kV12 dc12 pm12 an12 cd12 ct12), sl12⟩) (c12 : PySem.W.codeIn K cd12 "from_borders" = true) (k12 : PySem.W.keepIn K (.ref f12) = true)
    (a16 : PySem.W.nsIn K mainGlobals "differing_runs" = some (some (.ref f16))) (l16 : K.lookup f16 = some ⟨oc16, od16, .func (PySem.W.fnOf "differing_runs" "differing_runs" (defArgs (topS 16)) (defBody (topS 16)) (defScope (topS 16)) .none kV16 dc16 pm16 an16 cd16 ct16), sl16⟩) (c16 : PySem.W.codeIn K cd16 "differing_runs" = true) (k16 : PySem.W.keepIn K (.ref f16) = true)
    (a18 : PySem.W.nsIn K mainGlobals "clicks_to_meet" = some (some (.ref f18))) (l18 : K.lookup f18 = some ⟨oc18, od18, .func (PySem.W.fnOf "clicks_to_meet" "clicks_to_meet" (defArgs (topS 18)) (defBody (topS 18)) (defScope (topS 18)) .none kV18 dc18 pm18 an18 cd18 ct18), sl18⟩) (c18 : PySem.W.codeIn K cd18 "clicks_to_meet" = true) (k18 : PySem.W.keepIn K (.ref f18) = true)
    (a19 : PySem.W.nsIn K mainGlobals "meeting_clicks" = some (some (.ref f19))) (l19 : K.lookup f19 = some ⟨oc19, od19, .func (PySem.W.fnOf "meeting_clicks" "meeting_clicks" (defArgs (topS 19)) (defBody (topS 19)) (defScope (topS 19)) .none kV19 dc19 pm19 an19 cd19 ct19), sl19⟩) (c19 : PySem.W.codeIn K cd19 "meeting_clicks" = true) (k19 : PySem.W.keepIn K (.ref f19) = true)
    (a20 : PySem.W.nsIn K mainGlobals "fewest_to_meet" = some (some (.ref f20))) (l20 : K.lookup f20 = some ⟨oc20, od20, .func (PySem.W.fnOf "fewest_to_meet" "fewest_to_meet" (defArgs (topS 20)) (defBody (topS 20)) (defScope (topS 20)) .none kV20 dc20 pm20 an20 cd20 ct20), sl20⟩) (c20 : PySem.W.codeIn K cd20 "fewest_to_meet" = true) (k20 : PySem.W.keepIn K (.ref f20) = true)
    (a28 : PySem.W.nsIn K mainGlobals "_law_right" = some (some (.ref f28))) (l28 : K.lookup f28 = some ⟨oc28, od28, .func (PySem.W.fnOf "_law_right" "_law_right" (defArgs (topS 28)) (defBody (topS 28)) (defScope (topS 28)) .none kV28 dc28 pm28 an28 cd28 ct28), sl28⟩) (c28 : PySem.W.codeIn K cd28 "_law_right" = true) (k28 : PySem.W.keepIn K (.ref f28) = true)
    (a29 : PySem.W.nsIn K mainGlobals "law" = some (some (.ref f29))) (l29 : K.lookup f29 = some ⟨oc29, od29, .func (PySem.W.fnOf "law" "law" (defArgs (topS 29)) (defBody (topS 29)) (defScope (topS 29)) .none kV29 dc29 pm29 an29 cd29 ct29), sl29⟩) (c29 : PySem.W.codeIn K cd29 "law" = true) (k29 : PySem.W.keepIn K (.ref f29) = true)
    (z_all : PySem.W.nsIn K mainGlobals "all" = some none)
    (z_bool : PySem.W.nsIn K mainGlobals "bool" = some none)
    (z_dict : PySem.W.nsIn K mainGlobals "dict" = some none)
    (z_enumerate : PySem.W.nsIn K mainGlobals "enumerate" = some none)
    (z_int : PySem.W.nsIn K mainGlobals "int" = some none)
    (z_isinstance : PySem.W.nsIn K mainGlobals "isinstance" = some none)
    (z_len : PySem.W.nsIn K mainGlobals "len" = some none)
    (z_list : PySem.W.nsIn K mainGlobals "list" = some none)
    (z_max : PySem.W.nsIn K mainGlobals "max" = some none)
    (z_min : PySem.W.nsIn K mainGlobals "min" = some none)
    (z_range : PySem.W.nsIn K mainGlobals "range" = some none)
    (z_repr : PySem.W.nsIn K mainGlobals "repr" = some none)
    (z_sorted : PySem.W.nsIn K mainGlobals "sorted" = some none)
    (z_tuple : PySem.W.nsIn K mainGlobals "tuple" = some none)
    (z_zip : PySem.W.nsIn K mainGlobals "zip" = some none)
    (y_CLICK : PySem.W.nsIn K mainGlobals "CLICK" = some (some (.str "click" t_CLICK)))
    (y_MOST_ITEMS : PySem.W.nsIn K mainGlobals "MOST_ITEMS" = some (some (.int 1000000000000000000000000000000 t_MOST_ITEMS)))
    (y_RANGE : PySem.W.nsIn K mainGlobals "RANGE" = some (some (.str "range" t_RANGE)))
    : ∃ fd : FuncData, (∀ (s : Shared) (u : Value), BindsTo s fd ⟨[u], []⟩ [("_law_script", u)]) ∧ ∀ base : Heap, K.In base → base.Ns mainGlobals mg → FnG l.prog w K mg base CX0 9 fa fd ["_law_script"] (SpOf (fmLaw K) mlaw_p mlaw) := by
  have e := hfa.symm.trans (PySem.W.mg_of X G a29)
  cases e
  have F22 := fun_mk (st := topS 22) l22 c22 k22
  have F23 := fun_mk (st := topS 23) l23 c23 k23
  have F24 := fun_mk (st := topS 24) l24 c24 k24
  have F26 := fun_mk (st := topS 26) l26 c26 k26
  have F27 := fun_mk (st := topS 27) l27 c27 k27
  have F25 := fun_mk (st := topS 25) l25 c25 k25
  have F6 := fun_mk (st := topS 6) l6 c6 k6
  have F7 := fun_mk (st := topS 7) l7 c7 k7
  have F8 := fun_mk (st := topS 8) l8 c8 k8
  have F9 := fun_mk (st := topS 9) l9 c9 k9
  have F10 := fun_mk (st := topS 10) l10 c10 k10
  have F17 := fun_mk (st := topS 17) l17 c17 k17
  have F11 := fun_mk (st := topS 11) l11 c11 k11
  have F12 := fun_mk (st := topS 12) l12 c12 k12
  have F16 := fun_mk (st := topS 16) l16 c16 k16
  have F18 := fun_mk (st := topS 18) l18 c18 k18
  have F19 := fun_mk (st := topS 19) l19 c19 k19
  have F20 := fun_mk (st := topS 20) l20 c20 k20
  have F28 := fun_mk (st := topS 28) l28 c28 k28
  have F29 := fun_mk (st := topS 29) l29 c29 k29
  exact ⟨_, fun s u => .of_eq rfl, fun base _ _ => mlaw_ok (⟨f22, _, F22, (PySem.W.mg_of X G a22), (F22.binds (ps := ["_law_script", "_law_k"]) fun _ _ _ _ _ _ us hl => match us, hl with | [_, _], _ => rfl), f23, _, F23, (PySem.W.mg_of X G a23), (F23.binds (ps := ["_law_cell", "_law_place"]) fun _ _ _ _ _ _ us hl => match us, hl with | [_, _], _ => rfl), f24, _, F24, (PySem.W.mg_of X G a24), (F24.binds (ps := ["_law_pool_here", "_law_many"]) fun _ _ _ _ _ _ us hl => match us, hl with | [_, _], _ => rfl), f26, _, F26, (PySem.W.mg_of X G a26), (F26.binds (ps := ["_law_marks", "_law_anchor", "_law_kind", "_law_item"]) fun _ _ _ _ _ _ us hl => match us, hl with | [_, _, _, _], _ => rfl), f27, _, F27, (PySem.W.mg_of X G a27), (F27.binds (ps := ["_law_size", "_law_one", "_law_two"]) fun _ _ _ _ _ _ us hl => match us, hl with | [_, _, _], _ => rfl), f25, _, F25, (PySem.W.mg_of X G a25), (F25.binds (ps := ["_law_segments", "_law_marks"]) fun _ _ _ _ _ _ us hl => match us, hl with | [_, _], _ => rfl), f6, _, F6, (PySem.W.mg_of X G a6), (F6.binds (ps := ["value", "least", "most"]) fun _ _ _ _ _ _ us hl => match us, hl with | [_, _, _], _ => rfl), f7, _, F7, (PySem.W.mg_of X G a7), (F7.binds (ps := ["items"]) fun _ _ _ _ _ _ us hl => match us, hl with | [_], _ => rfl), f8, _, F8, (PySem.W.mg_of X G a8), (F8.binds (ps := ["items", "value"]) fun _ _ _ _ _ _ us hl => match us, hl with | [_, _], _ => rfl), f9, _, F9, (PySem.W.mg_of X G a9), (F9.binds (ps := ["items", "value"]) fun _ _ _ _ _ _ us hl => match us, hl with | [_, _], _ => rfl), f10, _, F10, (PySem.W.mg_of X G a10), (F10.binds (ps := ["items", "selection"]) fun _ _ _ _ _ _ us hl => match us, hl with | [_, _], _ => rfl), f17, _, F17, (PySem.W.mg_of X G a17), (F17.binds (ps := ["items", "selection", "other"]) fun _ _ _ _ _ _ us hl => match us, hl with | [_, _, _], _ => rfl), f11, _, F11, (PySem.W.mg_of X G a11), (F11.binds (ps := ["selection"]) fun _ _ _ _ _ _ us hl => match us, hl with | [_], _ => rfl), f12, _, F12, (PySem.W.mg_of X G a12), (F12.binds (ps := ["borders"]) fun _ _ _ _ _ _ us hl => match us, hl with | [_], _ => rfl), f16, _, F16, (PySem.W.mg_of X G a16), (F16.binds (ps := ["borders", "others"]) fun _ _ _ _ _ _ us hl => match us, hl with | [_, _], _ => rfl), f18, _, F18, (PySem.W.mg_of X G a18), (F18.binds (ps := ["items", "selection", "other"]) fun _ _ _ _ _ _ us hl => match us, hl with | [_, _, _], _ => rfl), f19, _, F19, (PySem.W.mg_of X G a19), (F19.binds (ps := ["items", "selection", "other"]) fun _ _ _ _ _ _ us hl => match us, hl with | [_, _, _], _ => rfl), f20, _, F20, (PySem.W.mg_of X G a20), (F20.binds (ps := ["items", "selection", "other"]) fun _ _ _ _ _ _ us hl => match us, hl with | [_, _, _], _ => rfl), f28, _, F28, (PySem.W.mg_of X G a28), (F28.binds (ps := ["_law_size", "_law_one", "_law_two"]) fun _ _ _ _ _ _ us hl => match us, hl with | [_, _, _], _ => rfl), fa, _, F29, (PySem.W.mg_of X G a29), (F29.binds (ps := ["_law_script"]) fun _ _ _ _ _ _ us hl => match us, hl with | [_], _ => rfl), (fun s us ws h1 h2 => match us, ws, h1, h2 with | [], [_, _, _], _, _ => .of_eq rfl), (PySem.W.mg_none_of X G z_all), (PySem.W.mg_none_of X G z_bool), (PySem.W.mg_none_of X G z_dict), (PySem.W.mg_none_of X G z_enumerate), (PySem.W.mg_none_of X G z_int), (PySem.W.mg_none_of X G z_isinstance), (PySem.W.mg_none_of X G z_len), (PySem.W.mg_none_of X G z_list), (PySem.W.mg_none_of X G z_max), (PySem.W.mg_none_of X G z_min), (PySem.W.mg_none_of X G z_range), (PySem.W.mg_none_of X G z_repr), (PySem.W.mg_none_of X G z_sorted), (PySem.W.mg_none_of X G z_tuple), (PySem.W.mg_none_of X G z_zip), t_CLICK, (PySem.W.mg_of X G y_CLICK), t_MOST_ITEMS, (PySem.W.mg_of X G y_MOST_ITEMS), t_RANGE, (PySem.W.mg_of X G y_RANGE)⟩ : Tx K mg)⟩
end
end Lw
open PySem PySem.W PyProof.Rows
set_option maxHeartbeats 0 in
theorem PySem.Challenge.cw_rangeclicks_k78_fewest_clicks_to_meet_by_holds : PySem.Challenge.rw_rangeclicks_k78_fewest_clicks_to_meet_by.Holds := by
  w_on; o_law; k_head; (case hw => w_witness2)
  k_fill
  refine Dx.law_walk (l := PySem.Challenge.rw_rangeclicks_k78_fewest_clicks_to_meet_by) (n := 63) (k := 9) (x := "_law_script") (sp := fun w => Dx.SpOf (Dx.fmLaw _) Lw.mlaw_p Lw.mlaw) rfl (by decide) rfl ⟨⟨rfl, by decide, by decide⟩, rfl⟩ (fun w h Y => PySem.W.kIn_of Y) ?F (fun _ _ _ ns hl hb hS => Dx.law_sp hS (Nat.le_trans hl (by decide)) (Lw.law_pre ns hl hb) (Lw.law_true ns hl hb))
  case F =>
    intro w mg fa h KX G hmg
    refine' Lw.all_mk KX G hmg ?a22 ?l22 ?c22 ?k22 ?a23 ?l23 ?c23 ?k23 ?a24 ?l24 ?c24 ?k24 ?a26 ?l26 ?c26 ?k26 ?a27 ?l27 ?c27 ?k27 ?a25 ?l25 ?c25 ?k25 ?a6 ?l6 ?c6 ?k6 ?a7 ?l7 ?c7 ?k7 ?a8 ?l8 ?c8 ?k8 ?a9 ?l9 ?c9 ?k9 ?a10 ?l10 ?c10 ?k10 ?a17 ?l17 ?c17 ?k17 ?a11 ?l11 ?c11 ?k11 ?a12 ?l12 ?c12 ?k12 ?a16 ?l16 ?c16 ?k16 ?a18 ?l18 ?c18 ?k18 ?a19 ?l19 ?c19 ?k19 ?a20 ?l20 ?c20 ?k20 ?a28 ?l28 ?c28 ?k28 ?a29 ?l29 ?c29 ?k29 ?z_all ?z_bool ?z_dict ?z_enumerate ?z_int ?z_isinstance ?z_len ?z_list ?z_max ?z_min ?z_range ?z_repr ?z_sorted ?z_tuple ?z_zip ?y_CLICK ?y_MOST_ITEMS ?y_RANGE
    (case a22 => k_is); (case l22 => k_is); (case c22 => k_is); (case k22 => k_is); (case a23 => k_is); (case l23 => k_is); (case c23 => k_is); (case k23 => k_is); (case a24 => k_is); (case l24 => k_is); (case c24 => k_is); (case k24 => k_is); (case a26 => k_is); (case l26 => k_is); (case c26 => k_is); (case k26 => k_is); (case a27 => k_is); (case l27 => k_is); (case c27 => k_is); (case k27 => k_is); (case a25 => k_is); (case l25 => k_is); (case c25 => k_is); (case k25 => k_is); (case a6 => k_is); (case l6 => k_is); (case c6 => k_is); (case k6 => k_is); (case a7 => k_is); (case l7 => k_is); (case c7 => k_is); (case k7 => k_is); (case a8 => k_is); (case l8 => k_is); (case c8 => k_is); (case k8 => k_is); (case a9 => k_is); (case l9 => k_is); (case c9 => k_is); (case k9 => k_is); (case a10 => k_is); (case l10 => k_is); (case c10 => k_is); (case k10 => k_is); (case a17 => k_is); (case l17 => k_is); (case c17 => k_is); (case k17 => k_is); (case a11 => k_is); (case l11 => k_is); (case c11 => k_is); (case k11 => k_is); (case a12 => k_is); (case l12 => k_is); (case c12 => k_is); (case k12 => k_is); (case a16 => k_is); (case l16 => k_is); (case c16 => k_is); (case k16 => k_is); (case a18 => k_is); (case l18 => k_is); (case c18 => k_is); (case k18 => k_is); (case a19 => k_is); (case l19 => k_is); (case c19 => k_is); (case k19 => k_is); (case a20 => k_is); (case l20 => k_is); (case c20 => k_is); (case k20 => k_is); (case a28 => k_is); (case l28 => k_is); (case c28 => k_is); (case k28 => k_is); (case a29 => k_is); (case l29 => k_is); (case c29 => k_is); (case k29 => k_is); (case z_all => k_is); (case z_bool => k_is); (case z_dict => k_is); (case z_enumerate => k_is); (case z_int => k_is); (case z_isinstance => k_is); (case z_len => k_is); (case z_list => k_is); (case z_max => k_is); (case z_min => k_is); (case z_range => k_is); (case z_repr => k_is); (case z_sorted => k_is); (case z_tuple => k_is); (case z_zip => k_is); (case y_CLICK => k_is); (case y_MOST_ITEMS => k_is); (case y_RANGE => k_is)

