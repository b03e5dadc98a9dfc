import PyProof.Rows.All
import Wide.All
import OpenK.AllK
import Wide.FinOn
import HandS.ForMost
import HandS.EndBits
import HandS.Style
import HandS.IsInst
import HandS.Wide
import HandS.SortInts
import HandS.SetFor
import HandS.Deep
import HandS.Zip
import HandS.TryOnly
import HandS.Conv
import PyProof.LongRange
import HandS.Text
import PyProof.StrOps2
import HandS.Set
import HandS.Strs
import PyProof.Rows.SetFrom
import HandS.DictComp
import PyProof.Draws
import PyProof.EnumMake
import PyProof.StrLawsRepr
import HandS.TupMul
import KE.KDictPairs
import HandS.Dict
import KE.KBits
import HandS.WideMore
import KE.SortData
import KE.KDictList
import KE.KDictCopyH
import PyProof.SumWalkG
import PyProof.P3In
import HandS.ExcCtx
import HandS.HotCalls
import HandS.ExcIs
import KE.DataFind
import HandS.TupAny
import PyProof.ReprReads
import PyProof.Rows.RegStrFacts
import PySem.Challenge.RW_rangeclicks_k19_whole_click_lists_joined
set_option Elab.async false
set_option linter.all false
set_option maxRecDepth 100000
set_option autoImplicit false
/-! Dx, part A: data with Lean types over the abstract heap; the contexts; what an expression is worth. -/
namespace Dx
open PySem PySem.Spec PyProof.Rows L2

/-! ### types of data -/
structure Ty (K : PySem.W.Frag) where
  α : Type
  rep : Hp → V → α → Prop
  mono : ∀ {F F' : Hp} {v : V} {x : α}, Same F F' → rep F v x → rep F' v x
/-- what stands for the same tuples stands for the same data: no list is read -/
def LF {K : PySem.W.Frag} (τ : Ty K) : Prop := ∀ F F' v x, (∀ a xs, F a = some (.tup xs) → F' a = some (.tup xs)) → τ.rep F v x → τ.rep F' v x
/-- an object that is owned: told by its content -/
structure OTy (K : PySem.W.Frag) where
  τ : Ty K
  own : Hp → HO → τ.α → Prop
  mono : ∀ {F F' : Hp} {u : HO} {x : τ.α}, Same F F' → own F u x → own F' u x
  frz : ∀ {F : Hp} {a : Addr} {u : HO} {x : τ.α}, own F u x → F a = some u → τ.rep F (.ref a) x
  obj : ∀ {F : Hp} {u : HO} {x : τ.α}, own F u x → ∀ xs, u ≠ .tup xs
def LFo {K : PySem.W.Frag} (ω : OTy K) : Prop := ∀ F F' u x, (∀ a xs, F a = some (.tup xs) → F' a = some (.tup xs)) → ω.own F u x → ω.own F' u x

section
variable {K : PySem.W.Frag}
abbrev tInt (K : PySem.W.Frag) : Ty K := ⟨Int, fun _ v x => v = .int x, fun _ h => h⟩
abbrev tBool (K : PySem.W.Frag) : Ty K := ⟨Bool, fun _ v x => v = .bl x, fun _ h => h⟩
abbrev tStr (K : PySem.W.Frag) : Ty K := ⟨Str, fun _ v x => v = .str x ∧ PyData.strOk x = true, fun _ h => h⟩
/-- a text of which nothing more is known (a repr) -/
abbrev tTxt (K : PySem.W.Frag) : Ty K := ⟨Str, fun _ v x => v = .str x, fun _ h => h⟩
abbrev tNone (K : PySem.W.Frag) : Ty K := ⟨Unit, fun _ v _ => v = .non, fun _ h => h⟩
/-- data or None -/
abbrev tOpt (τ : Ty K) : Ty K := ⟨Option τ.α, fun F v x => match x with
  | none => v = .non
  | some y => v ≠ .non ∧ τ.rep F v y, fun {_ _ _ x} h r => match x, r with
  | none, r => r
  | some _, r => ⟨r.1, τ.mono h r.2⟩⟩
theorem paired_mono {α β : Type} {R R' : α → β → Prop} (h : ∀ a b, R a b → R' a b) : ∀ {xs : List α} {ys : List β}, Paired R xs ys → Paired R' xs ys
  | _, _, .nil => .nil
  | _, _, .cons r t => .cons (h _ _ r) (paired_mono h t)
theorem sq_mono {F F' : Hp} {a : Addr} {vs : List V} (h : Same F F') (r : SqL K F a vs) : SqL K F' a vs := h.seq r
abbrev tList (τ : Ty K) : Ty K := ⟨List τ.α, fun F v xs => ∃ a vs, v = .ref a ∧ F a = some (.lst vs) ∧ Paired (τ.rep F) vs xs ∧ xs.length ≤ sizeLine,
  fun h ⟨a, vs, e, q, p, z⟩ => ⟨a, vs, e, h _ _ q, paired_mono (fun _ _ r => τ.mono h r) p, z⟩⟩
/-- the script: a list of ints that may be known to the object or to the module -/
abbrev tScr (K : PySem.W.Frag) : Ty K := ⟨List Int, fun F v xs => ∃ a, v = .ref a ∧ SqL K F a (xs.map V.int) ∧ xs.length ≤ sizeLine, fun h ⟨a, e, q, z⟩ => ⟨a, e, sq_mono h q, z⟩⟩
/-- what is read as a list -/
def LL (L τ : Ty K) (to : L.α → List τ.α) : Prop := ∀ {F : Hp} {v : V} {x : L.α}, L.rep F v x → ∃ a vs, v = .ref a ∧ SqL K F a vs ∧ Paired (τ.rep F) vs (to x) ∧ (to x).length ≤ sizeLine
theorem paired_map {α β γ : Type} {R : α → γ → Prop} {f : β → α} {g : β → γ} (h : ∀ b, R (f b) (g b)) : ∀ xs : List β, Paired R (xs.map f) (xs.map g)
  | [] => .nil
  | x :: xs => .cons (h x) (paired_map h xs)
theorem ll_list {τ : Ty K} : LL (tList τ) τ (fun x => x) := fun ⟨a, vs, e, q, p, z⟩ => ⟨a, vs, e, .inl (.inl q), p, z⟩
theorem ll_scr : LL (tScr K) (tInt K) (fun x => x) := fun {F v x} ⟨a, e, q, z⟩ => ⟨a, _, e, q, by
  have := paired_map (R := (tInt K).rep F) (f := V.int) (g := fun (i : Int) => i) (fun _ => rfl) x
  rwa [List.map_id'] at this, z⟩
/-- the product of carriers: of arguments, of a tuple's items -/
def HL : List (Ty K) → Type
  | [] => Unit
  | [τ] => τ.α
  | τ :: σ :: ts => τ.α × HL (σ :: ts)
def RepAll (F : Hp) : (ts : List (Ty K)) → List V → HL ts → Prop
  | [], vs, _ => vs = []
  | [τ], vs, x => ∃ v, vs = [v] ∧ τ.rep F v x
  | τ :: σ :: ts, vs, x => ∃ v r, vs = v :: r ∧ τ.rep F v x.1 ∧ RepAll F (σ :: ts) r x.2
theorem RepAll.mono {F F' : Hp} (h : Same F F') : ∀ {ts : List (Ty K)} {vs : List V} {x : HL ts}, RepAll F ts vs x → RepAll F' ts vs x
  | [], _, _, r => r
  | [τ], _, _, ⟨v, e, r⟩ => ⟨v, e, τ.mono h r⟩
  | τ :: σ :: ts, _, _, ⟨v, r, e, r1, r2⟩ => ⟨v, r, e, τ.mono h r1, RepAll.mono h r2⟩
theorem RepAll.length {F : Hp} : ∀ {ts : List (Ty K)} {vs : List V} {x : HL ts}, RepAll F ts vs x → vs.length = ts.length
  | [], _, _, r => by rw [show _ = [] from r]; rfl
  | [τ], _, _, ⟨v, e, r⟩ => by rw [e]; rfl
  | τ :: σ :: ts, _, _, ⟨v, r, e, r1, r2⟩ => by rw [e, List.length_cons, RepAll.length r2]; rfl
/-- a tuple of known length -/
abbrev tTp (ts : List (Ty K)) : Ty K := ⟨HL ts, fun F v x => ∃ a vs, v = .ref a ∧ F a = some (.tup vs) ∧ RepAll F ts vs x,
  fun h ⟨a, vs, e, q, r⟩ => ⟨a, vs, e, h _ _ q, r.mono h⟩⟩
/-- a list that is owned -/
abbrev oList (τ : Ty K) : OTy K where
  τ := tList τ
  own := fun F u xs => ∃ vs, u = .lst vs ∧ Paired (τ.rep F) vs xs ∧ xs.length ≤ sizeLine
  mono := fun h ⟨vs, e, p, z⟩ => ⟨vs, e, paired_mono (fun _ _ r => τ.mono h r) p, z⟩
  frz := fun {F a u x} ⟨vs, e, p, z⟩ q => ⟨a, vs, rfl, e ▸ q, p, z⟩
  obj := fun ⟨vs, e, _⟩ xs z => by rw [e] at z; cases z

theorem lf_int : LF (tInt K) := fun _ _ _ _ _ r => r
theorem lf_bool : LF (tBool K) := fun _ _ _ _ _ r => r
theorem lf_all : ∀ {ts : List (Ty K)}, (∀ τ ∈ ts, LF τ) → ∀ (F F' : Hp) (vs : List V) (x : HL ts), (∀ a xs, F a = some (.tup xs) → F' a = some (.tup xs)) → RepAll F ts vs x → RepAll F' ts vs x
  | [], _, _, _, _, _, _, r => r
  | [τ], h, F, F', _, _, k, ⟨v, e, r⟩ => ⟨v, e, h τ (by simp) F F' _ _ k r⟩
  | τ :: σ :: ts, h, F, F', _, _, k, ⟨v, r, e, r1, r2⟩ => ⟨v, r, e, h τ (by simp) F F' _ _ k r1, lf_all (fun t m => h t (List.mem_cons_of_mem _ m)) F F' _ _ k r2⟩
theorem lf_tup {ts : List (Ty K)} (h : ∀ τ ∈ ts, LF τ) : LF (tTp ts) := fun F F' v x k ⟨a, vs, e, q, r⟩ => ⟨a, vs, e, k a vs q, lf_all h F F' vs x k r⟩
theorem lf_nil : ∀ τ ∈ ([] : List (Ty K)), LF τ := fun _ h => nomatch h
theorem lf_cons {τ : Ty K} {ts : List (Ty K)} (h : LF τ) (t : ∀ σ ∈ ts, LF σ) : ∀ σ ∈ τ :: ts, LF σ := fun σ m => (List.mem_cons.mp m).elim (fun e => e ▸ h) (t σ)
theorem lfo_list {τ : Ty K} (h : LF τ) : LFo (oList τ) := fun F F' _ _ k ⟨vs, e, p, z⟩ => ⟨vs, e, paired_mono (fun a b r => h F F' a b k r) p, z⟩
end

/-! ### contexts -/
/-- a local name: not known; data that stays; an object of one's own -/
inductive Slot (K : PySem.W.Frag) (S : Type) : Type 1
  | dead
  | fz (τ : Ty K) (f : S → τ.α)
  | ow (ω : OTy K) (f : S → ω.τ.α)
abbrev Ctx (K : PySem.W.Frag) (S : Type) := List (Slot K S)
section
variable {K : PySem.W.Frag} {S T : Type}
def Slot.comap (g : T → S) : Slot K S → Slot K T
  | .dead => .dead
  | .fz τ f => .fz τ fun t => f (g t)
  | .ow ω f => .ow ω fun t => f (g t)
abbrev Ctx.comap (g : T → S) (Δ : Ctx K S) : Ctx K T := Δ.map (Slot.comap g)
def SlotOk (F H : Hp) (s : S) (o : Option V) : Slot K S → Prop
  | .dead => True
  | .fz τ f => ∃ v, o = some v ∧ τ.rep F v (f s)
  | .ow ω f => ∃ p u, o = some (.ref p) ∧ F p = none ∧ H p = some u ∧ ω.own F u (f s)
structure Holds (Δ : Ctx K S) (s : S) (F H : Hp) (σ : L2.St) : Prop where
  len : σ.length = Δ.length
  at_ : ∀ (i : Nat) (sl : Slot K S) (o : Option V), Δ[i]? = some sl → σ[i]? = some o → SlotOk F H s o sl
  sep : ∀ (i j : Nat) (ω ω' : OTy K) (f : S → ω.τ.α) (f' : S → ω'.τ.α) (p : Addr), i ≠ j → Δ[i]? = some (.ow ω f) → Δ[j]? = some (.ow ω' f') → σ[i]? = some (some (.ref p)) → σ[j]? ≠ some (some (.ref p))
/-- the addresses that the slots ms hold -/
def MsAt (ms : List Nat) (σ : L2.St) (a : Addr) : Prop := ∃ i ∈ ms, σ[i]? = some (some (.ref a))
structure Gr (B : Addr → Prop) (F H F' H' : Hp) : Prop where
  ff : Same F F'
  fh : Same F' H'
  fresh : ∀ a o, F' a = some o → F a = some o ∨ H a = none
  keep : ∀ a o, H a = some o → ¬ B a → H' a = some o
  dom : ∀ a, H' a = none → H a = none
def No : Addr → Prop := fun _ => False
theorem msAt_nil {σ : L2.St} : MsAt [] σ = No := by
  funext a
  exact propext ⟨fun ⟨_, h, _⟩ => False.elim (by cases h), fun h => False.elim h⟩
section
variable {B B' : Addr → Prop} {F H F1 H1 F2 H2 : Hp}
theorem Gr.refl (h : Same F H) : Gr B F H F H := ⟨Same.refl F, h, fun _ _ h => .inl h, fun _ _ h _ => h, fun _ h => h⟩
theorem Gr.trans (a : Gr B F H F1 H1) (b : Gr B F1 H1 F2 H2) : Gr B F H F2 H2 where
  ff := a.ff.trans b.ff
  fh := b.fh
  fresh := fun x o h => (b.fresh x o h).elim (a.fresh x o) fun n => .inr (a.dom x n)
  keep := fun x o h n => b.keep x o (a.keep x o h n) n
  dom := fun x h => a.dom x (b.dom x h)
theorem Gr.mono (h : ∀ a, B a → B' a) (g : Gr B F H F1 H1) : Gr B' F H F1 H1 := ⟨g.ff, g.fh, g.fresh, fun a o e n => g.keep a o e fun z => n (h a z), g.dom⟩
theorem Gr.same (g : Gr No F H F1 H1) : Same H H1 := fun a o h => g.keep a o h fun z => z
theorem Gr.of0 (g : Gr No F H F1 H1) : Gr B F H F1 H1 := g.mono fun _ z => z.elim
theorem gr_mk (s : Same H H1) (ff : Same F F1) (fh : Same F1 H1) (fresh : ∀ a o, F1 a = some o → F a = some o ∨ H a = none) : Gr No F H F1 H1 := ⟨ff, fh, fresh, fun a o h _ => s a o h, fun _ h => s.free h⟩
theorem same_new {G : Hp} {p : Addr} {o : HO} (h : G p = none) : Same G (upd G p o) := fun a u e => by
  rw [upd_ne (ne_of_none e h)]
  exact e
theorem upd_mono {G G' : Hp} {p : Addr} {o : HO} (h : Same G G') : Same (upd G p o) (upd G' p o) := fun a u e => by
  by_cases x : a = p
  · subst x; rw [upd_same] at e ⊢; exact e
  · rw [upd_ne x] at e ⊢; exact h a u e
/-- a new object, frozen at once -/
theorem Gr.new {p : Addr} {o : HO} (h : Same F H) (n : H p = none) : Gr No F H (upd F p o) (upd H p o) :=
  gr_mk (same_new n) (same_new (h.free n)) (upd_mono h) fun a u e => by
    by_cases x : a = p
    · subst x; exact .inr n
    · rw [upd_ne x] at e; exact .inl e
/-- a new object of one's own -/
theorem Gr.newO {p : Addr} {o : HO} (h : Same F H) (n : H p = none) : Gr No F H F (upd H p o) :=
  gr_mk (same_new n) (Same.refl F) (h.trans (same_new n)) fun a u e => .inl e
end
theorem Holds.grow {Δ : Ctx K S} {s : S} {F H F' H' : Hp} {σ : L2.St} (h : Holds Δ s F H σ) (g : Gr No F H F' H') : Holds Δ s F' H' σ where
  len := h.len
  at_ := fun i sl o e1 e2 => by
    have r := h.at_ i sl o e1 e2
    cases sl with
    | dead => trivial
    | fz τ f => obtain ⟨v, e, q⟩ := r; exact ⟨v, e, τ.mono g.ff q⟩
    | ow ω f =>
      obtain ⟨p, u, e, n, hp, q⟩ := r
      refine ⟨p, u, e, ?_, g.same _ _ hp, ω.mono g.ff q⟩
      cases x : F' p with
      | none => rfl
      | some o' =>
        rcases g.fresh p o' x with z | z
        · rw [n] at z; cases z
        · rw [hp] at z; cases z
  sep := h.sep
/-- the slots outside of ms are told as before -/
structure Diff (ms : List Nat) (Δ Δ1 : Ctx K S) : Prop where
  len : Δ1.length = Δ.length
  out : ∀ k, k ∉ ms → Δ1[k]? = Δ[k]?
  own : ∀ (k : Nat) (ω : OTy K) (f : S → ω.τ.α), Δ1[k]? = some (Slot.ow ω f) → ∃ (ω' : OTy K) (f' : S → ω'.τ.α), Δ[k]? = some (Slot.ow ω' f')
theorem Diff.refl {ms : List Nat} {Δ : Ctx K S} : Diff ms Δ Δ := ⟨rfl, fun _ _ => rfl, fun _ _ _ h => ⟨_, _, h⟩⟩
theorem Diff.trans {m1 m2 : List Nat} {Δ Δ1 Δ2 : Ctx K S} (a : Diff m1 Δ Δ1) (b : Diff m2 Δ1 Δ2) : Diff (m1 ++ m2) Δ Δ2 :=
  ⟨b.len.trans a.len, fun k h => (b.out k fun z => h (List.mem_append_right _ z)).trans (a.out k fun z => h (List.mem_append_left _ z)),
    fun k ω f h => let ⟨ω', f', h'⟩ := b.own k ω f h; a.own k ω' f' h'⟩
/-- an own slot's object stood there -/
theorem Diff.was {ms : List Nat} {Δ Δ1 : Ctx K S} (d : Diff ms Δ Δ1) {s : S} {F H : Hp} {σ : L2.St} (hh : Holds Δ s F H σ) {k : Nat} {ω : OTy K} {f : S → ω.τ.α} {p : Addr} (h : Δ1[k]? = some (.ow ω f)) (e : σ[k]? = some (some (.ref p))) : F p = none ∧ H p ≠ none := by
  obtain ⟨ω', f', h'⟩ := d.own k ω f h
  obtain ⟨q, u, e', n, hp, _⟩ := hh.at_ k _ _ h' e
  cases e'
  exact ⟨n, by rw [hp]; exact fun z => nomatch z⟩
def Conj : List (S → Prop) → S → Prop
  | [], _ => True
  | c :: cs, s => c s ∧ Conj cs s
theorem conj_app {s : S} : ∀ {a b : List (S → Prop)}, Conj (a ++ b) s → Conj a s ∧ Conj b s
  | [], _, h => ⟨trivial, h⟩
  | c :: cs, b, h => by
    obtain ⟨h1, h2⟩ := h
    obtain ⟨h3, h4⟩ := conj_app (a := cs) h2
    exact ⟨⟨h1, h3⟩, h4⟩
theorem msAt_l {m1 m2 : List Nat} {σ : L2.St} : ∀ a, MsAt m1 σ a → MsAt (m1 ++ m2) σ a := fun a ⟨i, h, e⟩ => ⟨i, List.mem_append_left _ h, e⟩
theorem msAt_r {m1 m2 : List Nat} {σ : L2.St} : ∀ a, MsAt m2 σ a → MsAt (m1 ++ m2) σ a := fun a ⟨i, h, e⟩ => ⟨i, List.mem_append_right _ h, e⟩

/-! ### what an expression, a test, an argument list is worth -/
def DX (K : PySem.W.Frag) (X : Cx) (Δ : Ctx K S) (e : Expr) (τ : Ty K) (ms : List Nat) (cs : List (S → Prop)) (Δ1 : Ctx K S) (f : S → τ.α) (t : TE) : Prop :=
  Diff ms Δ Δ1 ∧ PE X e t ∧ ∀ s F H σ, Holds Δ s F H σ → Same F H → Conj cs s → ∀ Q : VK, (∀ v F' H', Gr (MsAt ms σ) F H F' H' → Holds Δ1 s F' H' σ → τ.rep F' v (f s) → Q v H') → t σ H Q
/-- a new object of one's own -/
def DO (K : PySem.W.Frag) (X : Cx) (Δ : Ctx K S) (e : Expr) (ω : OTy K) (ms : List Nat) (cs : List (S → Prop)) (Δ1 : Ctx K S) (f : S → ω.τ.α) (t : TE) : Prop :=
  Diff ms Δ Δ1 ∧ PE X e t ∧ ∀ s F H σ, Holds Δ s F H σ → Same F H → Conj cs s → ∀ Q : VK, (∀ p u F' H', Gr (MsAt ms σ) F H F' H' → Holds Δ1 s F' H' σ → H p = none → F' p = none → H' p = some u → ω.own F' u (f s) → Q (.ref p) H') → t σ H Q
def DT (K : PySem.W.Frag) (X : Cx) (Δ : Ctx K S) (e : Expr) (ms : List Nat) (cs : List (S → Prop)) (Δ1 : Ctx K S) (f : S → Bool) (t : TT) : Prop :=
  Diff ms Δ Δ1 ∧ PT X e t ∧ ∀ s F H σ, Holds Δ s F H σ → Same F H → Conj cs s → ∀ Q : Bool → Hp → Prop, (∀ F' H', Gr (MsAt ms σ) F H F' H' → Holds Δ1 s F' H' σ → Q (f s) H') → t σ H Q
/-- a test whatever its whole is -/
def DW (K : PySem.W.Frag) (X : Cx) (Δ : Ctx K S) (e : Expr) (ms : List Nat) (cs : List (S → Prop)) (Δ1 : Ctx K S) (f : S → Bool) (t : TT) : Prop :=
  Diff ms Δ Δ1 ∧ PW X e t ∧ ∀ s F H σ, Holds Δ s F H σ → Same F H → Conj cs s → ∀ Q : Bool → Hp → Prop, (∀ F' H', Gr (MsAt ms σ) F H F' H' → Holds Δ1 s F' H' σ → Q (f s) H') → t σ H Q
end
section
variable {K : PySem.W.Frag} {X : Cx} {S : Type} {Δ Δ1 Δ2 Δ3 : Ctx K S} {e a b c : Expr} {pos p' : Pos} {τ τ1 τ2 : Ty K} {ω : OTy K} {m1 m2 m3 ms : List Nat} {c1 c2 c3 cs : List (S → Prop)}
theorem DW.t {f : S → Bool} {t : TT} (h : DW K X Δ e ms cs Δ1 f t) : DT K X Δ e ms cs Δ1 f t := ⟨h.1, h.2.1.pt, h.2.2⟩

/-! #### names and constants -/
theorem DX.var {i : Nat} {x : Str} {f : S → τ.α} (h : Δ[i]? = some (.fz τ f)) (hN : X.N[i]? = some x := by rfl) (hv : Vis X.env.scope x := by first | exact Or.inl rfl | exact Or.inr (Or.inl rfl) | exact Or.inr (Or.inr rfl)) (hd : (x == ("__debug__" : Str)) = false := by decide)
    (hcd : (x == ("__classdict__" : Str)) = false := by decide) : DX K X Δ (.Name x pos) τ [] [] Δ f (tVar i) := by
  refine ⟨Diff.refl, pe_var hN hv hd hcd, fun s F H σ hh sm _ Q q => ?_⟩
  have hi : i < σ.length := by rw [hh.len]; exact (List.getElem?_eq_some_iff.mp h).1
  obtain ⟨o, ho⟩ : ∃ o, σ[i]? = some o := ⟨_, List.getElem?_eq_getElem hi⟩
  obtain ⟨v, e, r⟩ := hh.at_ i _ o h ho
  exact ⟨v, by rw [ho, e], q v F H (Gr.refl sm) hh r⟩
theorem DX.cst {v : V} {x : τ.α} (hp : PE X e (tC v)) (hr : ∀ F, τ.rep F v x) : DX K X Δ e τ [] [] Δ (fun _ => x) (tC v) :=
  ⟨Diff.refl, hp, fun _ F H _ hh sm _ _ q => q v F H (Gr.refl sm) hh (hr F)⟩
theorem DX.int {i : Int} {j : Nat} : DX K X Δ (.Constant (.int i) j pos) (tInt K) [] [] Δ (fun _ => i) (tC (.int i)) := DX.cst pe_int fun _ => rfl
theorem DX.tru {j : Nat} : DX K X Δ (.Constant (.bool true) j pos) (tBool K) [] [] Δ (fun _ => true) (tC (.bl true)) := DX.cst pe_bl fun _ => rfl
theorem DX.fls {j : Nat} : DX K X Δ (.Constant (.bool false) j pos) (tBool K) [] [] Δ (fun _ => false) (tC (.bl false)) := DX.cst pe_bl fun _ => rfl
theorem DX.str {x : Str} {j : Nat} (h : PyData.strOk x = true := by decide) : DX K X Δ (.Constant (.str x) j pos) (tStr K) [] [] Δ (fun _ => x) (tC (.str x)) := DX.cst pe_str fun _ => ⟨rfl, h⟩
theorem DX.non {j : Nat} : DX K X Δ (.Constant .none j pos) (tNone K) [] [] Δ (fun _ => ()) (tC .non) := DX.cst pe_non fun _ => rfl
theorem DX.nonO {j : Nat} : DX K X Δ (.Constant .none j pos) (tOpt τ) [] [] Δ (fun _ => none) (tC .non) := DX.cst pe_non fun _ => rfl
/-- a module's constant -/
theorem DX.glbI {x : Str} {i : Int} {t : Tok} (hg : Gl X x) (hm : X.mg x = some (.int i t)) (hd : (x == ("__debug__" : Str)) = false := by decide) : DX K X Δ (.Name x pos) (tInt K) [] [] Δ (fun _ => i) (tC (.int i)) := DX.cst (v := .int i) (pe_glob hg hm ⟨t, rfl⟩ hd) fun _ => rfl
theorem DX.glbS {x : Str} {i : Str} {t : Tok} (hg : Gl X x) (hm : X.mg x = some (.str i t)) (hd : (x == ("__debug__" : Str)) = false := by decide) (h : PyData.strOk i = true := by decide) : DX K X Δ (.Name x pos) (tStr K) [] [] Δ (fun _ => i) (tC (.str i)) := DX.cst (v := .str i) (pe_glob hg hm ⟨t, rfl⟩ hd) fun _ => ⟨rfl, h⟩

/-! #### turning one into another -/
/-- an object of one's own becomes data that stays -/
theorem DX.ofO {f : S → ω.τ.α} {t : TE} (h : DO K X Δ e ω ms cs Δ1 f t) : DX K X Δ e ω.τ ms cs Δ1 f t := by
  obtain ⟨d, ht, r⟩ := h
  refine ⟨d, ht, fun s F H σ hh sm hc Q q => r s F H σ hh sm hc Q fun p u F' H' g hh' hn fn hp ow => ?_⟩
  have s1 : Same F' (upd F' p u) := same_new fn
  have s2 : Same (upd F' p u) H' := fun a o e => by
    by_cases x : a = p
    · subst x; rw [upd_same] at e; rw [hp]; exact e
    · rw [upd_ne x] at e; exact g.fh a o e
  refine q _ (upd F' p u) H' ⟨g.ff.trans s1, s2, fun a o e => ?_, g.keep, g.dom⟩ ⟨hh'.len, fun i sl o e1 e2 => ?_, hh'.sep⟩ (ω.frz (ω.mono s1 ow) upd_same)
  · by_cases x : a = p
    · subst x; exact .inr hn
    · rw [upd_ne x] at e; exact g.fresh a o e
  · have r1 := hh'.at_ i sl o e1 e2
    cases sl with
    | dead => trivial
    | fz τ f => obtain ⟨v, e, q⟩ := r1; exact ⟨v, e, τ.mono s1 q⟩
    | ow ω2 f2 =>
      obtain ⟨p2, u2, e, n, hp2, q2⟩ := r1
      refine ⟨p2, u2, e, ?_, hp2, ω2.mono s1 q2⟩
      rw [upd_ne ?_]
      · exact n
      · intro z
        subst z
        subst e
        exact (d.was hh e1 e2).2 hn
end
end Dx

/-! Dx, part B: operators, comparisons, truth, displays, arguments. -/
namespace Dx
open PySem PySem.Spec PyProof.Rows L2

/-! ### data that is compared and shown -/
/-- a carrier as plain data: what it is, decidable equality, its depth -/
structure DF (α : Type) where
  toD : α → PyData
  dec : DecidableEq α
  n : Nat
abbrev DF.eq {α : Type} (d : DF α) (x y : α) : Bool := @decide (x = y) (d.dec x y)
def dfInt : DF Int := ⟨.int, inferInstance, 1⟩
def dfBool : DF Bool := ⟨.bool, inferInstance, 1⟩
def dfStr : DF Str := ⟨.str, inferInstance, 1⟩
def dfOpt {α : Type} (d : DF α) : DF (Option α) := ⟨fun | none => .none | some x => d.toD x, @Option.instDecidableEq α d.dec, max d.n 1⟩
def dfList {α : Type} (d : DF α) : DF (List α) := ⟨fun xs => .list (xs.map d.toD), @instDecidableEqList α d.dec, d.n + 1⟩
def dfT2 {α β : Type} (d : DF α) (e : DF β) : DF (α × β) := ⟨fun x => .tuple [d.toD x.1, e.toD x.2], @instDecidableEqProd α β d.dec e.dec, max d.n e.n + 1⟩
def dfT3 {α β γ : Type} (d : DF α) (e : DF β) (g : DF γ) : DF (α × β × γ) := ⟨fun x => .tuple [d.toD x.1, e.toD x.2.1, g.toD x.2.2], @instDecidableEqProd α (β × γ) d.dec (@instDecidableEqProd β γ e.dec g.dec), max d.n (max e.n g.n) + 1⟩
/-- repr(x) is told: its ints are short, its text is not too long -/
def ShowOk {α : Type} (d : DF α) (x : α) : Prop := (d.toD x).showable = true ∧ (d.toD x).shown.length ≤ sizeLine
def reprOf {α : Type} (d : DF α) (x : α) : Str := (d.toD x).shown

/-- what is plain about it -/
structure PlainD {α : Type} (d : DF α) : Prop where
  dep : ∀ x, (d.toD x).depth ≤ d.n
  eqv : ∀ x y, PyData.eqv (d.toD x) (d.toD y) = d.eq x y
  nodict : ∀ x, (d.toD x).hasDict = false
theorem pd_int : PlainD dfInt := ⟨fun _ => Nat.zero_le _, fun x y => by simp [dfInt, PyData.eqv, DF.eq, Bool.beq_eq_decide_eq], fun _ => rfl⟩
theorem pd_bool : PlainD dfBool := ⟨fun _ => Nat.zero_le _, fun x y => by simp [dfBool, PyData.eqv, DF.eq, Bool.beq_eq_decide_eq], fun _ => rfl⟩
theorem pd_str : PlainD dfStr := ⟨fun _ => Nat.zero_le _, fun x y => by simp [dfStr, PyData.eqv, DF.eq, Bool.beq_eq_decide_eq], fun _ => rfl⟩
theorem dep_all {α : Type} {f : α → PyData} {n : Nat} (h : ∀ x, (f x).depth ≤ n) : ∀ xs : List α, PyData.depthAll (xs.map f) ≤ n
  | [] => Nat.zero_le _
  | x :: xs => by show max (PyData.depth (f x)) _ ≤ n; exact Nat.max_le.mpr ⟨h x, dep_all h xs⟩
theorem nod_all {α : Type} {f : α → PyData} (h : ∀ x, (f x).hasDict = false) : ∀ xs : List α, PyData.hasDictAll (xs.map f) = false
  | [] => rfl
  | x :: xs => by show (PyData.hasDict (f x) || _) = false; rw [h x, nod_all h xs]; rfl
theorem eqv_all {α : Type} (d : DF α) (h : ∀ x y, PyData.eqv (d.toD x) (d.toD y) = d.eq x y) : ∀ xs ys : List α, PyData.eqvAll (xs.map d.toD) (ys.map d.toD) = @decide (xs = ys) (@instDecidableEqList α d.dec xs ys)
  | [], [] => by simp [PyData.eqvAll]
  | [], y :: ys => by simp [PyData.eqvAll]
  | x :: xs, [] => by simp [PyData.eqvAll]
  | x :: xs, y :: ys => by
    have e := h x y
    have t := eqv_all d h xs ys
    simp only [List.map_cons, PyData.eqvAll, e, t, DF.eq]
    rw [Bool.eq_iff_iff]
    simp
theorem pd_list {α : Type} {d : DF α} (h : PlainD d) : PlainD (dfList d) := ⟨fun xs => Nat.succ_le_succ (dep_all h.dep xs), fun xs ys => eqv_all d h.eqv xs ys, fun xs => nod_all h.nodict xs⟩
/-- never None -/
def NotN {α : Type} (d : DF α) : Prop := ∀ x, PyData.eqv .none (d.toD x) = false ∧ PyData.eqv (d.toD x) .none = false
theorem nn_int : NotN dfInt := fun _ => ⟨by simp [dfInt, PyData.eqv], by simp [dfInt, PyData.eqv]⟩
theorem pd_opt {α : Type} {d : DF α} (h : PlainD d) (hn : NotN d) : PlainD (dfOpt d) where
  dep := fun x => by cases x with
    | none => exact Nat.zero_le _
    | some y => exact Nat.le_trans (h.dep y) (Nat.le_max_left _ _)
  eqv := fun x y => by
    cases x with
    | none =>
      cases y with
      | none => simp [dfOpt, PyData.eqv, DF.eq]
      | some y => show PyData.eqv .none (d.toD y) = _; rw [(hn y).1]; simp [DF.eq]
    | some x =>
      cases y with
      | none => show PyData.eqv (d.toD x) .none = _; rw [(hn x).2]; simp [DF.eq]
      | some y => show PyData.eqv (d.toD x) (d.toD y) = _; rw [h.eqv x y]; simp [DF.eq]
  nodict := fun x => by cases x with
    | none => rfl
    | some y => exact h.nodict y
theorem pd_t2 {α β : Type} {d : DF α} {e : DF β} (h : PlainD d) (k : PlainD e) : PlainD (dfT2 d e) := ⟨fun x => by
    have := h.dep x.1
    have := k.dep x.2
    simp only [dfT2, PyData.depth, PyData.depthAll]; omega, fun x y => by
    simp only [dfT2, PyData.eqv, PyData.eqvAll, h.eqv, k.eqv, DF.eq, Bool.and_true]
    rw [Bool.eq_iff_iff]
    simp [Prod.ext_iff], fun x => by simp [dfT2, PyData.hasDict, PyData.hasDictAll, h.nodict, k.nodict]⟩
theorem pd_t3 {α β γ : Type} {d : DF α} {e : DF β} {g : DF γ} (h : PlainD d) (k : PlainD e) (l : PlainD g) : PlainD (dfT3 d e g) := ⟨fun x => by
    have := h.dep x.1
    have := k.dep x.2.1
    have := l.dep x.2.2
    simp only [dfT3, PyData.depth, PyData.depthAll]; omega, fun x y => by
    simp only [dfT3, PyData.eqv, PyData.eqvAll, h.eqv, k.eqv, l.eqv, DF.eq, Bool.and_true]
    rw [Bool.eq_iff_iff]
    simp [Prod.ext_iff], fun x => by simp [dfT3, PyData.hasDict, PyData.hasDictAll, h.nodict, k.nodict, l.nodict]⟩
/-- the data of a type is that plain data -/
structure Dat {K : PySem.W.Frag} (τ : Ty K) (d : DF τ.α) : Prop where
  dp : ∀ {F : Hp} {v : V} {x : τ.α}, τ.rep F v x → Dp K F v (d.toD x)
  lay : ∀ {F : Hp} {v : V} {x : τ.α}, τ.rep F v x → (d.toD x).canLay0 = true
  pl : PlainD d
section
variable {K : PySem.W.Frag}
theorem dat_int : Dat (tInt K) dfInt := ⟨fun r => by subst r; exact .int _, fun _ => rfl, pd_int⟩
theorem dat_bool : Dat (tBool K) dfBool := ⟨fun r => by subst r; exact .bl _, fun _ => rfl, pd_bool⟩
theorem dat_str : Dat (tStr K) dfStr := ⟨fun r => by rw [r.1]; exact .str _, fun r => r.2, pd_str⟩
theorem dp_all {τ : Ty K} {d : DF τ.α} (h : Dat τ d) {F : Hp} : ∀ {vs : List V} {xs : List τ.α}, Paired (τ.rep F) vs xs → DpAll K F vs (xs.map d.toD) ∧ PyData.canLayAll0 (xs.map d.toD) = true
  | _, _, .nil => ⟨.nil, rfl⟩
  | _, _, .cons r t => ⟨.cons (h.dp r) (dp_all h t).1, by show (PyData.canLay0 _ && _) = true; rw [h.lay r, (dp_all h t).2]; rfl⟩
theorem dat_list {τ : Ty K} {d : DF τ.α} (h : Dat τ d) : Dat (tList τ) (dfList d) := ⟨fun ⟨a, vs, e, q, p, _⟩ => by
    rw [e]
    exact .lst (.inl (.inl q)) (dp_all h p).1, fun ⟨a, vs, e, q, p, _⟩ => (dp_all h p).2, pd_list h.pl⟩
theorem dpi_all {F : Hp} : ∀ xs : List Int, DpAll K F (xs.map V.int) (xs.map dfInt.toD)
  | [] => .nil
  | x :: xs => .cons (.int x) (dpi_all xs)
theorem layi_all : ∀ xs : List Int, PyData.canLayAll0 (xs.map dfInt.toD) = true
  | [] => rfl
  | x :: xs => layi_all xs
theorem dat_scr : Dat (tScr K) (dfList dfInt) := ⟨fun {F v x} ⟨a, e, q, _⟩ => by
    rw [e]
    exact .lst q (dpi_all x), fun {F v x} _ => layi_all x, pd_list pd_int⟩
theorem dat_opt {τ : Ty K} {d : DF τ.α} (h : Dat τ d) (hn : NotN d) : Dat (tOpt τ) (dfOpt d) where
  dp := fun {F v x} r => by
    cases x with
    | none => rw [show v = V.non from r]; exact .non
    | some y => exact h.dp r.2
  lay := fun {F v x} r => by cases x with
    | none => rfl
    | some y => exact h.lay r.2
  pl := pd_opt h.pl hn
theorem st_any {F : Hp} {a : Addr} {vs : List V} (h : F a = some (.tup vs)) : SqT K F a vs := .inl (.inl h)
theorem dat_t2 {τ1 τ2 : Ty K} {d1 : DF τ1.α} {d2 : DF τ2.α} (h1 : Dat τ1 d1) (h2 : Dat τ2 d2) : Dat (tTp [τ1, τ2]) (dfT2 d1 d2) := ⟨fun ⟨a, vs, e, q, v, r, e2, r1, w, e3, r2⟩ => by
    subst e e3 e2
    exact .tup (st_any q) (.cons (h1.dp r1) (.cons (h2.dp r2) .nil)), fun ⟨a, vs, e, q, v, r, e2, r1, w, e3, r2⟩ => by
    show (PyData.canLay0 _ && (PyData.canLay0 _ && true)) = true
    rw [h1.lay r1, h2.lay r2]; rfl, pd_t2 h1.pl h2.pl⟩
theorem dat_t3 {τ1 τ2 τ3 : Ty K} {d1 : DF τ1.α} {d2 : DF τ2.α} {d3 : DF τ3.α} (h1 : Dat τ1 d1) (h2 : Dat τ2 d2) (h3 : Dat τ3 d3) : Dat (tTp [τ1, τ2, τ3]) (dfT3 d1 d2 d3) := ⟨fun ⟨a, vs, e, q, v, r, e2, r1, v2, r', e4, r2, w, e3, r3⟩ => by
    subst e e3 e4 e2
    exact .tup (st_any q) (.cons (h1.dp r1) (.cons (h2.dp r2) (.cons (h3.dp r3) .nil))), fun ⟨a, vs, e, q, v, r, e2, r1, v2, r', e4, r2, w, e3, r3⟩ => by
    show (PyData.canLay0 _ && (PyData.canLay0 _ && (PyData.canLay0 _ && true))) = true
    rw [h1.lay r1, h2.lay r2, h3.lay r3]; rfl, pd_t3 h1.pl h2.pl h3.pl⟩
end

/-! ### operators on data -/
section
variable {ta tb : TE} {tx ty tz : TT} {K : PySem.W.Frag} {X : Cx} {S : Type} {Δ Δ1 Δ2 Δ3 : Ctx K S} {e a b c : Expr} {pos p' : Pos} {τ τa τb τ1 τ2 : Ty K} {ω : OTy K} {m1 m2 m3 ms : List Nat} {c1 c2 c3 cs : List (S → Prop)} {op : Operator} {cop : CmpOp}
def ConjC {α β : Type} : List (α → β → Prop) → α → β → Prop
  | [], _, _ => True
  | c :: cs, x, y => c x y ∧ ConjC cs x y
theorem conjC {α β : Type} {fa : S → α} {fb : S → β} {s : S} : ∀ {cc : List (α → β → Prop)}, Conj (cc.map fun c s => c (fa s) (fb s)) s → ConjC cc (fa s) (fb s)
  | [], _ => trivial
  | c :: cc, h => ⟨h.1, conjC (cc := cc) h.2⟩
/-- what a two-place operation makes of data -/
def R2ok (K : PySem.W.Frag) (r : R2) (τa τb τ : Ty K) (cc : List (τa.α → τb.α → Prop)) (g : τa.α → τb.α → τ.α) : Prop :=
  ∀ x y v u F H, Same F H → τa.rep F v x → τb.rep F u y → ConjC cc x y → ∀ Q : VK, (∀ z F' H', Gr No F H F' H' → τ.rep F' z (g x y) → Q z H') → r v u H Q
/-- .. a new object of one's own -/
def R2new (K : PySem.W.Frag) (r : R2) (τa τb : Ty K) (ω : OTy K) (cc : List (τa.α → τb.α → Prop)) (g : τa.α → τb.α → ω.τ.α) : Prop :=
  ∀ x y v u F H, Same F H → τa.rep F v x → τb.rep F u y → ConjC cc x y → ∀ Q : VK, (∀ p z, H p = none → ω.own F z (g x y) → Q (.ref p) (upd H p z)) → r v u H Q
theorem DX.bin {r : R2} {cc : List (τa.α → τb.α → Prop)} {g : τa.α → τb.α → τ.α} {fa : S → τa.α} {fb : S → τb.α} (hr : R2ok K r τa τb τ cc g) (ha : DX K X Δ a τa m1 c1 Δ1 fa ta) (hb : DX K X Δ1 b τb m2 c2 Δ2 fb tb)
    (hop : PE X a ta → PE X b tb → PE X e (tOp r ta tb)) : DX K X Δ e τ (m1 ++ m2) (c1 ++ (c2 ++ cc.map fun c s => c (fa s) (fb s))) Δ2 (fun s => g (fa s) (fb s)) (tOp r ta tb) := by
  obtain ⟨d1, pa, ra⟩ := ha
  obtain ⟨d2, pb, rb⟩ := hb
  refine ⟨d1.trans d2, hop pa pb, fun s F H σ hh sm hc Q q => ?_⟩
  obtain ⟨h1, h2⟩ := conj_app hc
  obtain ⟨h2, h3⟩ := conj_app h2
  refine ra s F H σ hh sm h1 _ fun v F1 H1 g1 hh1 r1 => ?_
  refine rb s F1 H1 σ hh1 g1.fh h2 _ fun u F2 H2 g2 hh2 r2 => ?_
  have g12 := (g1.mono (msAt_l (m2 := m2))).trans (g2.mono (msAt_r (m1 := m1)))
  exact hr _ _ v u F2 H2 g2.fh (τa.mono g2.ff r1) r2 (conjC h3) Q fun z F3 H3 g3 r3 => q z F3 H3 (g12.trans g3.of0) (hh2.grow g3) r3
theorem DT.bin {r : R2} {cc : List (τa.α → τb.α → Prop)} {g : τa.α → τb.α → Bool} {fa : S → τa.α} {fb : S → τb.α} (hr : R2ok K r τa τb (tBool K) cc g) (ha : DX K X Δ a τa m1 c1 Δ1 fa ta) (hb : DX K X Δ1 b τb m2 c2 Δ2 fb tb)
    (hop : PE X a ta → PE X b tb → PT X e (tTest (tOp r ta tb))) : DT K X Δ e (m1 ++ m2) (c1 ++ (c2 ++ cc.map fun c s => c (fa s) (fb s))) Δ2 (fun s => g (fa s) (fb s)) (tTest (tOp r ta tb)) := by
  obtain ⟨d1, pa, ra⟩ := ha
  obtain ⟨d2, pb, rb⟩ := hb
  refine ⟨d1.trans d2, hop pa pb, fun s F H σ hh sm hc Q q => ?_⟩
  obtain ⟨h1, h2⟩ := conj_app hc
  obtain ⟨h2, h3⟩ := conj_app h2
  refine ra s F H σ hh sm h1 _ fun v F1 H1 g1 hh1 r1 => ?_
  refine rb s F1 H1 σ hh1 g1.fh h2 _ fun u F2 H2 g2 hh2 r2 => ?_
  have g12 := (g1.mono (msAt_l (m2 := m2))).trans (g2.mono (msAt_r (m1 := m1)))
  exact hr _ _ v u F2 H2 g2.fh (τa.mono g2.ff r1) r2 (conjC h3) _ fun z F3 H3 g3 r3 => ⟨_, r3, q F3 H3 (g12.trans g3.of0) (hh2.grow g3)⟩
theorem own_of_new {F H : Hp} {p : Addr} {z : HO} {x : ω.τ.α} (sm : Same F H) (n : H p = none) (o : ω.own F z x) : Gr No F H F (upd H p z) ∧ F p = none ∧ (upd H p z) p = some z := ⟨Gr.newO sm n, sm.free n, upd_same⟩
theorem DO.bin {r : R2} {cc : List (τa.α → τb.α → Prop)} {g : τa.α → τb.α → ω.τ.α} {fa : S → τa.α} {fb : S → τb.α} (hr : R2new K r τa τb ω cc g) (ha : DX K X Δ a τa m1 c1 Δ1 fa ta) (hb : DX K X Δ1 b τb m2 c2 Δ2 fb tb)
    (hop : PE X a ta → PE X b tb → PE X e (tOp r ta tb)) : DO K X Δ e ω (m1 ++ m2) (c1 ++ (c2 ++ cc.map fun c s => c (fa s) (fb s))) Δ2 (fun s => g (fa s) (fb s)) (tOp r ta tb) := by
  obtain ⟨d1, pa, ra⟩ := ha
  obtain ⟨d2, pb, rb⟩ := hb
  refine ⟨d1.trans d2, hop pa pb, fun s F H σ hh sm hc Q q => ?_⟩
  obtain ⟨h1, h2⟩ := conj_app hc
  obtain ⟨h2, h3⟩ := conj_app h2
  refine ra s F H σ hh sm h1 _ fun v F1 H1 g1 hh1 r1 => ?_
  refine rb s F1 H1 σ hh1 g1.fh h2 _ fun u F2 H2 g2 hh2 r2 => ?_
  have g12 := (g1.mono (msAt_l (m2 := m2))).trans (g2.mono (msAt_r (m1 := m1)))
  refine hr _ _ v u F2 H2 g2.fh (τa.mono g2.ff r1) r2 (conjC h3) Q fun p z n o => ?_
  obtain ⟨g3, fn, e3⟩ := own_of_new g2.fh n o
  exact q p z F2 _ (g12.trans g3.of0) (hh2.grow g3) (g12.dom p n) fn e3 o

/-! #### whole numbers -/
theorem r2_I0 {g : Int → Int → V} {h : Int → Int → τ.α} (hg : ∀ F x y, τ.rep F (g x y) (h x y)) : R2ok K (rI0 g) (tInt K) (tInt K) τ [] h := fun x y v u F H sm r1 r2 _ Q q => by
  subst r1 r2
  exact ⟨x, y, rfl, rfl, q _ F H (Gr.refl sm) (hg F x y)⟩
theorem r2_I {C : Int → Int → Prop} {g : Int → Int → V} {h : Int → Int → τ.α} (hg : ∀ F x y, τ.rep F (g x y) (h x y)) : R2ok K (rI C g) (tInt K) (tInt K) τ [C] h := fun x y v u F H sm r1 r2 hc Q q => by
  subst r1 r2
  exact ⟨x, y, rfl, rfl, hc.1, q _ F H (Gr.refl sm) (hg F x y)⟩
variable {fa fb : S → Int}
theorem DX.add (ha : DX K X Δ a (tInt K) m1 c1 Δ1 fa ta) (hb : DX K X Δ1 b (tInt K) m2 c2 Δ2 fb tb) : DX K X Δ (.BinOp a .Add b pos) (tInt K) (m1 ++ m2) (c1 ++ (c2 ++ [])) Δ2 (fun s => fa s + fb s) (tOp (rI0 fun i j => .int (i + j)) ta tb) :=
  DX.bin (g := fun x y => x + y) (r2_I0 fun _ _ _ => rfl) ha hb fun p q => pe_op op_add p q
theorem DX.sub (ha : DX K X Δ a (tInt K) m1 c1 Δ1 fa ta) (hb : DX K X Δ1 b (tInt K) m2 c2 Δ2 fb tb) : DX K X Δ (.BinOp a .Sub b pos) (tInt K) (m1 ++ m2) (c1 ++ (c2 ++ [])) Δ2 (fun s => fa s - fb s) (tOp (rI0 fun i j => .int (i - j)) ta tb) :=
  DX.bin (g := fun x y => x - y) (r2_I0 fun _ _ _ => rfl) ha hb fun p q => pe_op op_sub p q
/-- a comparison of two ints, as a value and as a test -/
theorem DX.cmpI {P : Int → Int → Bool} (ho : OpR X (compareOp cop) (rI0 fun i j => .bl (P i j))) (hm : behindInMarks cop b = false) (ha : DX K X Δ a (tInt K) m1 c1 Δ1 fa ta) (hb : DX K X Δ1 b (tInt K) m2 c2 Δ2 fb tb) : DX K X Δ (.Compare a [cop] [b] pos) (tBool K) (m1 ++ m2) (c1 ++ (c2 ++ [])) Δ2 (fun s => P (fa s) (fb s)) (tOp (rI0 fun i j => .bl (P i j)) ta tb) :=
  DX.bin (τ := tBool K) (cc := []) (g := fun (x y : Int) => P x y) (r2_I0 fun _ _ _ => rfl) ha hb fun p q => pe_cmpR ho p q hm
theorem DT.cmpI {P : Int → Int → Bool} (ho : OpR X (compareOp cop) (rI0 fun i j => .bl (P i j))) (hm : behindInMarks cop b = false) (ha : DX K X Δ a (tInt K) m1 c1 Δ1 fa ta) (hb : DX K X Δ1 b (tInt K) m2 c2 Δ2 fb tb) : DT K X Δ (.Compare a [cop] [b] pos) (m1 ++ m2) (c1 ++ (c2 ++ [])) Δ2 (fun s => P (fa s) (fb s)) (tTest (tOp (rI0 fun i j => .bl (P i j)) ta tb)) :=
  DT.bin (cc := []) (g := fun (x y : Int) => P x y) (r2_I0 fun _ _ _ => rfl) ha hb fun p q => pt_cmpR ho p q hm
theorem DX.lt (ha : DX K X Δ a (tInt K) m1 c1 Δ1 fa ta) (hb : DX K X Δ1 b (tInt K) m2 c2 Δ2 fb tb) : DX K X Δ (.Compare a [.Lt] [b] pos) (tBool K) (m1 ++ m2) (c1 ++ (c2 ++ [])) Δ2 (fun s => decide (fa s < fb s)) (tOp (rI0 fun i j => .bl (decide (i < j))) ta tb) := DX.cmpI op_lt (nomark _) ha hb
theorem DX.le (ha : DX K X Δ a (tInt K) m1 c1 Δ1 fa ta) (hb : DX K X Δ1 b (tInt K) m2 c2 Δ2 fb tb) : DX K X Δ (.Compare a [.LtE] [b] pos) (tBool K) (m1 ++ m2) (c1 ++ (c2 ++ [])) Δ2 (fun s => decide (fa s ≤ fb s)) (tOp (rI0 fun i j => .bl (decide (i ≤ j))) ta tb) := DX.cmpI op_le (nomark _) ha hb
theorem DX.gt (ha : DX K X Δ a (tInt K) m1 c1 Δ1 fa ta) (hb : DX K X Δ1 b (tInt K) m2 c2 Δ2 fb tb) : DX K X Δ (.Compare a [.Gt] [b] pos) (tBool K) (m1 ++ m2) (c1 ++ (c2 ++ [])) Δ2 (fun s => decide (fb s < fa s)) (tOp (rI0 fun i j => .bl (decide (j < i))) ta tb) := DX.cmpI (P := fun i j => decide (j < i)) op_gt (nomark _) ha hb
theorem DX.ge (ha : DX K X Δ a (tInt K) m1 c1 Δ1 fa ta) (hb : DX K X Δ1 b (tInt K) m2 c2 Δ2 fb tb) : DX K X Δ (.Compare a [.GtE] [b] pos) (tBool K) (m1 ++ m2) (c1 ++ (c2 ++ [])) Δ2 (fun s => decide (fb s ≤ fa s)) (tOp (rI0 fun i j => .bl (decide (j ≤ i))) ta tb) := DX.cmpI (P := fun i j => decide (j ≤ i)) op_ge (nomark _) ha hb
theorem DT.lt (ha : DX K X Δ a (tInt K) m1 c1 Δ1 fa ta) (hb : DX K X Δ1 b (tInt K) m2 c2 Δ2 fb tb) : DT K X Δ (.Compare a [.Lt] [b] pos) (m1 ++ m2) (c1 ++ (c2 ++ [])) Δ2 (fun s => decide (fa s < fb s)) (tTest (tOp (rI0 fun i j => .bl (decide (i < j))) ta tb)) := DT.cmpI op_lt (nomark _) ha hb
theorem DT.le (ha : DX K X Δ a (tInt K) m1 c1 Δ1 fa ta) (hb : DX K X Δ1 b (tInt K) m2 c2 Δ2 fb tb) : DT K X Δ (.Compare a [.LtE] [b] pos) (m1 ++ m2) (c1 ++ (c2 ++ [])) Δ2 (fun s => decide (fa s ≤ fb s)) (tTest (tOp (rI0 fun i j => .bl (decide (i ≤ j))) ta tb)) := DT.cmpI op_le (nomark _) ha hb
theorem DT.gt (ha : DX K X Δ a (tInt K) m1 c1 Δ1 fa ta) (hb : DX K X Δ1 b (tInt K) m2 c2 Δ2 fb tb) : DT K X Δ (.Compare a [.Gt] [b] pos) (m1 ++ m2) (c1 ++ (c2 ++ [])) Δ2 (fun s => decide (fb s < fa s)) (tTest (tOp (rI0 fun i j => .bl (decide (j < i))) ta tb)) := DT.cmpI (P := fun i j => decide (j < i)) op_gt (nomark _) ha hb
theorem DT.ge (ha : DX K X Δ a (tInt K) m1 c1 Δ1 fa ta) (hb : DX K X Δ1 b (tInt K) m2 c2 Δ2 fb tb) : DT K X Δ (.Compare a [.GtE] [b] pos) (m1 ++ m2) (c1 ++ (c2 ++ [])) Δ2 (fun s => decide (fb s ≤ fa s)) (tTest (tOp (rI0 fun i j => .bl (decide (j ≤ i))) ta tb)) := DT.cmpI (P := fun i j => decide (j ≤ i)) op_ge (nomark _) ha hb
/-- n // m, n % m: m positive, not too long -/
theorem DX.fdiv (ha : DX K X Δ a (tInt K) m1 c1 Δ1 fa ta) (hb : DX K X Δ1 b (tInt K) m2 c2 Δ2 fb tb) : DX K X Δ (.BinOp a .FloorDiv b pos) (tInt K) (m1 ++ m2) (c1 ++ (c2 ++ [fun s => CDivW (fa s) (fb s)])) Δ2 (fun s => fa s / fb s) (tOp (rI CDivW fun i j => .int (i / j)) ta tb) :=
  DX.bin (g := fun x y => x / y) (r2_I fun _ _ _ => rfl) ha hb fun p q => pe_op op_fdivW p q
def CPosM (_ j : Int) : Prop := 0 < j
def rModP : R2 := rI CPosM fun i j => .int (i % j)
theorem op_modP : OpR X (binaryOp .Mod) rModP := fun pins s σ H x y v u Q I rx ry ⟨i, j, e1, e2, c, q⟩ =>
  op_modN pins s σ H x y v u Q I rx ry ⟨i, j, e1, e2, Int.ne_of_gt c, by
    show Q (V.int (i.fmod j)) H
    rw [Int.fmod_eq_emod_of_nonneg i (Int.le_of_lt c)]
    exact q⟩
theorem DX.mod (ha : DX K X Δ a (tInt K) m1 c1 Δ1 fa ta) (hb : DX K X Δ1 b (tInt K) m2 c2 Δ2 fb tb) : DX K X Δ (.BinOp a .Mod b pos) (tInt K) (m1 ++ m2) (c1 ++ (c2 ++ [fun s => CPosM (fa s) (fb s)])) Δ2 (fun s => fa s % fb s) (tOp rModP ta tb) :=
  DX.bin (g := fun x y => x % y) (r2_I fun _ _ _ => rfl) ha hb fun p q => pe_op op_modP p q
/-- n * m of together less than 2 ^ 24 bits -/
def CMulX (i j : Int) : Prop := i.natAbs.log2 + j.natAbs.log2 < 16777216
theorem CMulX.ok {i j : Int} (h : CMulX i j) : IntMulOk i j := by
  have b : ∀ x : Int, Builtin.Int.intBits x ≤ x.natAbs.log2 + 1 := fun x => by
    unfold Builtin.Int.intBits
    split <;> omega
  have h1 := b i
  have h2 := b j
  have h3 : i.natAbs.log2 + j.natAbs.log2 < 16777216 := h
  have e : bitsLine = 134217728 := by decide
  intro z
  have z2 := (Bool.and_eq_true _ _ ▸ z).2
  unfold Builtin.Int.intTooBig at z2
  have z3 := of_decide_eq_true z2
  omega
theorem op_mulX : OpR X (binaryOp .Mult) (rI CMulX fun i j => .int (i * j)) := opI fun _ _ _ _ _ _ _ hc q => mul_int q hc.ok
theorem DX.mul (ha : DX K X Δ a (tInt K) m1 c1 Δ1 fa ta) (hb : DX K X Δ1 b (tInt K) m2 c2 Δ2 fb tb) : DX K X Δ (.BinOp a .Mult b pos) (tInt K) (m1 ++ m2) (c1 ++ (c2 ++ [fun s => CMulX (fa s) (fb s)])) Δ2 (fun s => fa s * fb s) (tOp (rI CMulX fun i j => .int (i * j)) ta tb) :=
  DX.bin (g := fun x y => x * y) (r2_I fun _ _ _ => rfl) ha hb fun p q => pe_op op_mulX p q
theorem DX.neg (ha : DX K X Δ a (tInt K) m1 c1 Δ1 fa ta) : DX K X Δ (.UnaryOp .USub a pos) (tInt K) m1 c1 Δ1 (fun s => - fa s) (tUn (rU fun i => .int (-i)) ta) := by
  obtain ⟨d1, pa, ra⟩ := ha
  refine ⟨d1, pe_un un_neg pa, fun s F H σ hh sm hc Q q => ?_⟩
  exact ra s F H σ hh sm hc _ fun v F1 H1 g1 hh1 r1 => ⟨fa s, r1, q _ F1 H1 g1 hh1 rfl⟩

/-! #### == and != of data -/
theorem r2_eqD {d : DF τ.α} (h : Dat τ d) (hn : d.n ≤ 64) : R2ok K (rEqD K) τ τ (tBool K) [] (fun x y => d.eq x y) := fun x y v u F H sm r1 r2 _ Q q => by
  have lo : ∀ {z w}, τ.rep F w z → Dp K H w (d.toD z) ∧ SeqAt.shaped (d.toD z) = true := fun {z w} r => ⟨h.dp (τ.mono sm r), by
    unfold SeqAt.shaped
    rw [h.lay r, Bool.true_and]
    exact decide_eq_true (Nat.le_trans (h.pl.dep z) hn)⟩
  exact ⟨_, _, (lo r1).1, (lo r2).1, (lo r1).2, (lo r2).2, by rw [h.pl.eqv]; exact q _ F H (Gr.refl sm) rfl⟩
theorem r2_neD {d : DF τ.α} (h : Dat τ d) (hn : d.n ≤ 64) : R2ok K (rNeD K) τ τ (tBool K) [] (fun x y => !d.eq x y) := fun x y v u F H sm r1 r2 _ Q q => by
  have lo : ∀ {z w}, τ.rep F w z → Dp K H w (d.toD z) ∧ SeqAt.shaped (d.toD z) = true := fun {z w} r => ⟨h.dp (τ.mono sm r), by
    unfold SeqAt.shaped
    rw [h.lay r, Bool.true_and]
    exact decide_eq_true (Nat.le_trans (h.pl.dep z) hn)⟩
  exact ⟨_, _, (lo r1).1, (lo r2).1, (lo r1).2, (lo r2).2, by rw [h.pl.eqv]; exact q _ F H (Gr.refl sm) rfl⟩
section
variable {ga gb : S → τ.α} {k : Nat} {d : DF τ.α}
theorem DX.eq (hr : Room k X.A) (h : Dat τ d) (ha : DX K X Δ a τ m1 c1 Δ1 ga ta) (hb : DX K X Δ1 b τ m2 c2 Δ2 gb tb) (hn : d.n ≤ 64 := by decide) (hK : X.K = K := by rfl) : DX K X Δ (.Compare a [.Eq] [b] pos) (tBool K) (m1 ++ m2) (c1 ++ (c2 ++ [])) Δ2 (fun s => d.eq (ga s) (gb s)) (tOp (rEqD K) ta tb) := by
  subst hK
  exact DX.bin (r2_eqD h hn) ha hb fun p q => pe_cmpR (op_eqD hr.units) p q (nomark _)
theorem DX.ne (hr : Room k X.A) (h : Dat τ d) (ha : DX K X Δ a τ m1 c1 Δ1 ga ta) (hb : DX K X Δ1 b τ m2 c2 Δ2 gb tb) (hn : d.n ≤ 64 := by decide) (hK : X.K = K := by rfl) : DX K X Δ (.Compare a [.NotEq] [b] pos) (tBool K) (m1 ++ m2) (c1 ++ (c2 ++ [])) Δ2 (fun s => !d.eq (ga s) (gb s)) (tOp (rNeD K) ta tb) := by
  subst hK
  exact DX.bin (r2_neD h hn) ha hb fun p q => pe_cmpR (op_neD hr.units) p q (nomark _)
theorem DT.eq (hr : Room k X.A) (h : Dat τ d) (ha : DX K X Δ a τ m1 c1 Δ1 ga ta) (hb : DX K X Δ1 b τ m2 c2 Δ2 gb tb) (hn : d.n ≤ 64 := by decide) (hK : X.K = K := by rfl) : DT K X Δ (.Compare a [.Eq] [b] pos) (m1 ++ m2) (c1 ++ (c2 ++ [])) Δ2 (fun s => d.eq (ga s) (gb s)) (tTest (tOp (rEqD K) ta tb)) := by
  subst hK
  exact DT.bin (r2_eqD h hn) ha hb fun p q => pt_cmpR (op_eqD hr.units) p q (nomark _)
theorem DT.ne (hr : Room k X.A) (h : Dat τ d) (ha : DX K X Δ a τ m1 c1 Δ1 ga ta) (hb : DX K X Δ1 b τ m2 c2 Δ2 gb tb) (hn : d.n ≤ 64 := by decide) (hK : X.K = K := by rfl) : DT K X Δ (.Compare a [.NotEq] [b] pos) (m1 ++ m2) (c1 ++ (c2 ++ [])) Δ2 (fun s => !d.eq (ga s) (gb s)) (tTest (tOp (rNeD K) ta tb)) := by
  subst hK
  exact DT.bin (r2_neD h hn) ha hb fun p q => pt_cmpR (op_neD hr.units) p q (nomark _)
end
/-- is None, is not None -/
theorem opt_n {F : Hp} {v : V} {x : Option τ.α} (r : (tOpt τ).rep F v x) : decide (v = .non) = x.isNone := by
  cases x with
  | none => rw [show v = V.non from r]; rfl
  | some y => exact decide_eq_false r.1
theorem opt_s {F : Hp} {v : V} {x : Option τ.α} (r : (tOpt τ).rep F v x) : (!decide (v = .non)) = x.isSome := by
  rw [opt_n r]
  cases x <;> rfl
theorem DX.isN {f : S → Option τ.α} (ha : DX K X Δ a (tOpt τ) m1 c1 Δ1 f ta) {j : Nat} : DX K X Δ (.Compare a [.Is] [.Constant .none j p'] pos) (tBool K) m1 c1 Δ1 (fun s => (f s).isNone) (tIsN ta) := by
  obtain ⟨d1, pa, ra⟩ := ha
  exact ⟨d1, pe_cmp (pc_isN pa) rfl, fun s F H σ hh sm hc Q q => ra s F H σ hh sm hc _ fun v F1 H1 g1 hh1 r1 => q _ F1 H1 g1 hh1 (congrArg V.bl (opt_n r1))⟩
theorem DX.notN {f : S → Option τ.α} (ha : DX K X Δ a (tOpt τ) m1 c1 Δ1 f ta) {j : Nat} : DX K X Δ (.Compare a [.IsNot] [.Constant .none j p'] pos) (tBool K) m1 c1 Δ1 (fun s => (f s).isSome) (tNotN ta) := by
  obtain ⟨d1, pa, ra⟩ := ha
  exact ⟨d1, pe_cmp (pc_notN pa) rfl, fun s F H σ hh sm hc Q q => ra s F H σ hh sm hc _ fun v F1 H1 g1 hh1 r1 => q _ F1 H1 g1 hh1 (congrArg V.bl (opt_s r1))⟩
theorem DT.isN {f : S → Option τ.α} (ha : DX K X Δ a (tOpt τ) m1 c1 Δ1 f ta) {j : Nat} : DT K X Δ (.Compare a [.Is] [.Constant .none j p'] pos) m1 c1 Δ1 (fun s => (f s).isNone) (tB (tIsN ta)) := by
  obtain ⟨d1, pa, ra⟩ := ha
  exact ⟨d1, pt_cmp (pc_isN pa) rfl, fun s F H σ hh sm hc Q q => ra s F H σ hh sm hc _ fun v F1 H1 g1 hh1 r1 => ⟨_, congrArg V.bl (opt_n r1), q F1 H1 g1 hh1⟩⟩
theorem DT.notN {f : S → Option τ.α} (ha : DX K X Δ a (tOpt τ) m1 c1 Δ1 f ta) {j : Nat} : DT K X Δ (.Compare a [.IsNot] [.Constant .none j p'] pos) m1 c1 Δ1 (fun s => (f s).isSome) (tB (tNotN ta)) := by
  obtain ⟨d1, pa, ra⟩ := ha
  exact ⟨d1, pt_cmp (pc_notN pa) rfl, fun s F H σ hh sm hc Q q => ra s F H σ hh sm hc _ fun v F1 H1 g1 hh1 r1 => ⟨_, congrArg V.bl (opt_s r1), q F1 H1 g1 hh1⟩⟩

/-! ### truth -/
section
variable {f g : S → Bool} {rest : List Expr}
theorem DT.ofX (ha : DX K X Δ a (tBool K) m1 c1 Δ1 f ta) (he : ∀ whole, isTrue a X.env whole = (do let v ← whole; standAt a.pos; holding [v] (truthy v)) := by intro _; rfl) : DT K X Δ a m1 c1 Δ1 f (tB ta) := by
  obtain ⟨d1, pa, ra⟩ := ha
  exact ⟨d1, pt_val pa he, fun s F H σ hh sm hc Q q => ra s F H σ hh sm hc _ fun v F1 H1 g1 hh1 r1 => ⟨_, r1, q F1 H1 g1 hh1⟩⟩
theorem DT.not (ha : DT K X Δ a m1 c1 Δ1 f tx) : DT K X Δ (.UnaryOp .Not a pos) m1 c1 Δ1 (fun s => !f s) (tNot tx) := by
  obtain ⟨d1, pa, ra⟩ := ha
  exact ⟨d1, pt_not pa, fun s F H σ hh sm hc Q q => ra s F H σ hh sm hc _ fun F1 H1 g1 hh1 => q F1 H1 g1 hh1⟩
theorem DX.not (ha : DX K X Δ a (tBool K) m1 c1 Δ1 f ta) : DX K X Δ (.UnaryOp .Not a pos) (tBool K) m1 c1 Δ1 (fun s => !f s) (tNotV ta) := by
  obtain ⟨d1, pa, ra⟩ := ha
  exact ⟨d1, pe_not pa, fun s F H σ hh sm hc Q q => ra s F H σ hh sm hc _ fun v F1 H1 g1 hh1 r1 => ⟨_, r1, q _ F1 H1 g1 hh1 rfl⟩⟩
theorem DW.and1 (ha : DT K X Δ a m1 c1 Δ1 f tx) : DW K X Δ (.BoolOp .And [a] pos) m1 c1 Δ1 f tx := by
  obtain ⟨d1, pa, ra⟩ := ha
  exact ⟨d1, pw_and1 pa, ra⟩
theorem DW.or1 (ha : DT K X Δ a m1 c1 Δ1 f tx) : DW K X Δ (.BoolOp .Or [a] pos) m1 c1 Δ1 f tx := by
  obtain ⟨d1, pa, ra⟩ := ha
  exact ⟨d1, pw_or1 pa, ra⟩
theorem DX.and1 {o : BoolOp} (ha : DX K X Δ a (tBool K) m1 c1 Δ1 f ta) : DX K X Δ (.BoolOp o [a] pos) (tBool K) m1 c1 Δ1 f ta := by
  obtain ⟨d1, pa, ra⟩ := ha
  exact ⟨d1, pe_one pa, ra⟩
/-- conditions under a guard -/
def guardT (g : S → Bool) (cs : List (S → Prop)) : List (S → Prop) := cs.map fun c s => g s = true → c s
def guardF (g : S → Bool) (cs : List (S → Prop)) : List (S → Prop) := cs.map fun c s => g s = false → c s
theorem guardT_conj {g : S → Bool} {s : S} (h : g s = true) : ∀ {cs : List (S → Prop)}, Conj (guardT g cs) s → Conj cs s
  | [], _ => trivial
  | c :: cs, q => ⟨q.1 h, guardT_conj h (cs := cs) q.2⟩
theorem guardF_conj {g : S → Bool} {s : S} (h : g s = false) : ∀ {cs : List (S → Prop)}, Conj (guardF g cs) s → Conj cs s
  | [], _ => trivial
  | c :: cs, q => ⟨q.1 h, guardF_conj h (cs := cs) q.2⟩
/-- the second operand changes nothing -/
theorem DW.and (ha : DT K X Δ a m1 c1 Δ1 f tx) (hb : DW K X Δ1 (.BoolOp .And (b :: rest) pos) [] c2 Δ1 g ty) : DW K X Δ (.BoolOp .And (a :: b :: rest) pos) m1 (c1 ++ guardT f c2) Δ1 (fun s => f s && g s) (tAnd tx ty) := by
  obtain ⟨d1, pa, ra⟩ := ha
  obtain ⟨d2, pb, rb⟩ := hb
  refine ⟨d1, pw_and pa pb, fun s F H σ hh sm hc Q q => ?_⟩
  obtain ⟨h1, h2⟩ := conj_app hc
  refine ra s F H σ hh sm h1 _ fun F1 H1 g1 hh1 => ?_
  cases e : f s with
  | true =>
    show ty σ H1 Q
    refine rb s F1 H1 σ hh1 g1.fh (guardT_conj e h2) Q fun F2 H2 g2 hh2 => ?_
    rw [msAt_nil] at g2
    have := q F2 H2 (g1.trans g2.of0) hh2
    simp only [e, Bool.true_and] at this
    exact this
  | false =>
    have := q F1 H1 g1 hh1
    simp only [e, Bool.false_and] at this
    exact this
theorem DW.or (ha : DT K X Δ a m1 c1 Δ1 f tx) (hb : DW K X Δ1 (.BoolOp .Or (b :: rest) pos) [] c2 Δ1 g ty) : DW K X Δ (.BoolOp .Or (a :: b :: rest) pos) m1 (c1 ++ guardF f c2) Δ1 (fun s => f s || g s) (tOr tx ty) := by
  obtain ⟨d1, pa, ra⟩ := ha
  obtain ⟨d2, pb, rb⟩ := hb
  refine ⟨d1, pw_or pa pb, fun s F H σ hh sm hc Q q => ?_⟩
  obtain ⟨h1, h2⟩ := conj_app hc
  refine ra s F H σ hh sm h1 _ fun F1 H1 g1 hh1 => ?_
  cases e : f s with
  | false =>
    show ty σ H1 Q
    refine rb s F1 H1 σ hh1 g1.fh (guardF_conj e h2) Q fun F2 H2 g2 hh2 => ?_
    rw [msAt_nil] at g2
    have := q F2 H2 (g1.trans g2.of0) hh2
    simp only [e, Bool.false_or] at this
    exact this
  | true =>
    have := q F1 H1 g1 hh1
    simp only [e, Bool.true_or] at this
    exact this
theorem DX.and (ha : DX K X Δ a (tBool K) m1 c1 Δ1 f ta) (hb : DX K X Δ1 (.BoolOp .And (b :: rest) pos) (tBool K) [] c2 Δ1 g tb) : DX K X Δ (.BoolOp .And (a :: b :: rest) pos) (tBool K) m1 (c1 ++ guardT f c2) Δ1 (fun s => f s && g s) (tAndV ta tb) := by
  obtain ⟨d1, pa, ra⟩ := ha
  obtain ⟨d2, pb, rb⟩ := hb
  refine ⟨d1, pe_and pa pb, fun s F H σ hh sm hc Q q => ?_⟩
  obtain ⟨h1, h2⟩ := conj_app hc
  refine ra s F H σ hh sm h1 _ fun v F1 H1 g1 hh1 r1 => ⟨f s, r1, ?_⟩
  cases e : f s with
  | true =>
    show tb σ H1 Q
    refine rb s F1 H1 σ hh1 g1.fh (guardT_conj e h2) Q fun v2 F2 H2 g2 hh2 r2 => ?_
    rw [msAt_nil] at g2
    exact q v2 F2 H2 (g1.trans g2.of0) hh2 (by simp only [e, Bool.true_and]; exact r2)
  | false =>
    exact q _ F1 H1 g1 hh1 (by simp only [e, Bool.false_and])
theorem DX.or (ha : DX K X Δ a (tBool K) m1 c1 Δ1 f ta) (hb : DX K X Δ1 (.BoolOp .Or (b :: rest) pos) (tBool K) [] c2 Δ1 g tb) : DX K X Δ (.BoolOp .Or (a :: b :: rest) pos) (tBool K) m1 (c1 ++ guardF f c2) Δ1 (fun s => f s || g s) (tOrV ta tb) := by
  obtain ⟨d1, pa, ra⟩ := ha
  obtain ⟨d2, pb, rb⟩ := hb
  refine ⟨d1, pe_or pa pb, fun s F H σ hh sm hc Q q => ?_⟩
  obtain ⟨h1, h2⟩ := conj_app hc
  refine ra s F H σ hh sm h1 _ fun v F1 H1 g1 hh1 r1 => ⟨f s, r1, ?_⟩
  cases e : f s with
  | false =>
    show tb σ H1 Q
    refine rb s F1 H1 σ hh1 g1.fh (guardF_conj e h2) Q fun v2 F2 H2 g2 hh2 r2 => ?_
    rw [msAt_nil] at g2
    exact q v2 F2 H2 (g1.trans g2.of0) hh2 (by simp only [e, Bool.false_or]; exact r2)
  | true =>
    exact q _ F1 H1 g1 hh1 (by simp only [e, Bool.true_or])
/-- a if c else b, both without effects -/
theorem DX.ite {ga gb : S → τ.α} (hc : DT K X Δ c m1 c1 Δ1 f tz) (ha : DX K X Δ1 a τ [] c2 Δ1 ga ta) (hb : DX K X Δ1 b τ [] c3 Δ1 gb tb) : DX K X Δ (.IfExp c a b pos) τ m1 (c1 ++ (guardT f c2 ++ guardF f c3)) Δ1 (fun s => if f s = true then ga s else gb s) (tIf tz ta tb) := by
  obtain ⟨d1, pc, rc⟩ := hc
  obtain ⟨_, pa, ra⟩ := ha
  obtain ⟨_, pb, rb⟩ := hb
  refine ⟨d1, pe_ifExp pc pa pb, fun s F H σ hh sm hc Q q => ?_⟩
  obtain ⟨h1, h2⟩ := conj_app hc
  obtain ⟨h2, h3⟩ := conj_app h2
  refine rc s F H σ hh sm h1 _ fun F1 H1 g1 hh1 => ?_
  cases e : f s with
  | true =>
    show ta σ H1 Q
    refine ra s F1 H1 σ hh1 g1.fh (guardT_conj e h2) Q fun v2 F2 H2 g2 hh2 r2 => ?_
    rw [msAt_nil] at g2
    exact q v2 F2 H2 (g1.trans g2.of0) hh2 (by simp only [e, if_true]; exact r2)
  | false =>
    show tb σ H1 Q
    refine rb s F1 H1 σ hh1 g1.fh (guardF_conj e h3) Q fun v2 F2 H2 g2 hh2 r2 => ?_
    rw [msAt_nil] at g2
    exact q v2 F2 H2 (g1.trans g2.of0) hh2 (by simp only [e, if_false, Bool.false_eq_true]; exact r2)
end
end
end Dx

/-! Dx, part C: displays, items, arguments, what a def promises, calls. -/
namespace Dx
open PySem PySem.Spec PyProof.Rows L2
section
variable {K : PySem.W.Frag} {S : Type}
/-- items of one type; of several -/
def DL (K : PySem.W.Frag) (X : Cx) (Δ : Ctx K S) (es : List Expr) (τ : Ty K) (ms : List Nat) (cs : List (S → Prop)) (Δ1 : Ctx K S) (f : S → List τ.α) (t : TA) : Prop :=
  Diff ms Δ Δ1 ∧ PA X es t ∧ ∀ s F H σ, Holds Δ s F H σ → Same F H → Conj cs s → ∀ Q : List V → Hp → Prop, (∀ vs F' H', Gr (MsAt ms σ) F H F' H' → Holds Δ1 s F' H' σ → Paired (τ.rep F') vs (f s) → Q vs H') → t σ H Q
def DTs (K : PySem.W.Frag) (X : Cx) (Δ : Ctx K S) (es : List Expr) (ts : List (Ty K)) (ms : List Nat) (cs : List (S → Prop)) (Δ1 : Ctx K S) (f : S → HL ts) (t : TA) : Prop :=
  Diff ms Δ Δ1 ∧ PA X es t ∧ ∀ s F H σ, Holds Δ s F H σ → Same F H → Conj cs s → ∀ Q : List V → Hp → Prop, (∀ vs F' H', Gr (MsAt ms σ) F H F' H' → Holds Δ1 s F' H' σ → RepAll F' ts vs (f s) → Q vs H') → t σ H Q
/-- an argument: data that stays, or an own object that is lent (the slot j) -/
inductive AK (K : PySem.W.Frag) (S : Type) : Type 1
  | fz (τ : Ty K) (h : S → τ.α)
  | mu (j : Nat)
def AkRep (F : Hp) (σ : L2.St) (s : S) : AK K S → V → Prop
  | .fz τ h, v => τ.rep F v (h s)
  | .mu j, v => σ[j]? = some (some v)
def AkAll (F : Hp) (σ : L2.St) (s : S) : List (AK K S) → List V → Prop
  | [], vs => vs = []
  | a :: as, vs => ∃ v r, vs = v :: r ∧ AkRep F σ s a v ∧ AkAll F σ s as r
def DA (K : PySem.W.Frag) (X : Cx) (Δ : Ctx K S) (es : List Expr) (ms : List Nat) (cs : List (S → Prop)) (Δ1 : Ctx K S) (as : List (AK K S)) (t : TA) : Prop :=
  Diff ms Δ Δ1 ∧ PA X es t ∧ ∀ s F H σ, Holds Δ s F H σ → Same F H → Conj cs s → ∀ Q : List V → Hp → Prop, (∀ vs F' H', Gr (MsAt ms σ) F H F' H' → Holds Δ1 s F' H' σ → AkAll F' σ s as vs → Q vs H') → t σ H Q
end
section
variable {ta tb : TE} {tx ty tz : TT} {tl : TA} {K : PySem.W.Frag} {X : Cx} {S : Type} {Δ Δ1 Δ2 Δ3 : Ctx K S} {e a b c : Expr} {es : List Expr} {pos p' : Pos} {τ σt τa τb τ1 τ2 : Ty K} {ts : List (Ty K)} {ω : OTy K} {m1 m2 m3 ms : List Nat} {c1 c2 c3 cs : List (S → Prop)}
theorem DL.nil : DL K X Δ [] τ [] [] Δ (fun _ => []) tNil := ⟨Diff.refl, pa_nil, fun s F H σ hh sm _ Q q => q [] F H (Gr.refl sm) hh .nil⟩
theorem DL.cons {f : S → τ.α} {g : S → List τ.α} (ha : DX K X Δ e τ m1 c1 Δ1 f ta) (hb : DL K X Δ1 es τ m2 c2 Δ2 g tl) (hs : starEach (e :: es) X.env = (false, eval e X.env) :: starEach es X.env := by rfl) : DL K X Δ (e :: es) τ (m1 ++ m2) (c1 ++ c2) Δ2 (fun s => f s :: g s) (tCons ta tl) := by
  obtain ⟨d1, pa, ra⟩ := ha
  obtain ⟨d2, pb, rb⟩ := hb
  refine ⟨d1.trans d2, pa_cons pa pb hs, fun s F H σ hh sm hc Q q => ?_⟩
  obtain ⟨h1, h2⟩ := conj_app hc
  refine ra s F H σ hh sm h1 _ fun v F1 H1 g1 hh1 r1 => ?_
  refine rb s F1 H1 σ hh1 g1.fh h2 _ fun vs F2 H2 g2 hh2 r2 => ?_
  exact q _ F2 H2 ((g1.mono (msAt_l (m2 := m2))).trans (g2.mono (msAt_r (m1 := m1)))) hh2 (.cons (τ.mono g2.ff r1) r2)
theorem DTs.nil : DTs K X Δ [] [] [] [] Δ (fun _ => ()) tNil := ⟨Diff.refl, pa_nil, fun s F H σ hh sm _ Q q => q [] F H (Gr.refl sm) hh rfl⟩
theorem DTs.one {f : S → τ.α} (ha : DX K X Δ e τ m1 c1 Δ1 f ta) (hs : starEach [e] X.env = (false, eval e X.env) :: starEach [] X.env := by rfl) : DTs K X Δ [e] [τ] m1 c1 Δ1 f (tCons ta tNil) := by
  obtain ⟨d1, pa, ra⟩ := ha
  refine ⟨d1, pa_cons pa pa_nil hs, fun s F H σ hh sm hc Q q => ?_⟩
  exact ra s F H σ hh sm hc _ fun v F1 H1 g1 hh1 r1 => q _ F1 H1 g1 hh1 ⟨v, rfl, r1⟩
theorem DTs.cons {f : S → τ.α} {g : S → HL (σt :: ts)} (ha : DX K X Δ e τ m1 c1 Δ1 f ta) (hb : DTs K X Δ1 es (σt :: ts) m2 c2 Δ2 g tl) (hs : starEach (e :: es) X.env = (false, eval e X.env) :: starEach es X.env := by rfl) : DTs K X Δ (e :: es) (τ :: σt :: ts) (m1 ++ m2) (c1 ++ c2) Δ2 (fun s => (f s, g s)) (tCons ta tl) := by
  obtain ⟨d1, pa, ra⟩ := ha
  obtain ⟨d2, pb, rb⟩ := hb
  refine ⟨d1.trans d2, pa_cons pa pb hs, fun s F H σ hh sm hc Q q => ?_⟩
  obtain ⟨h1, h2⟩ := conj_app hc
  refine ra s F H σ hh sm h1 _ fun v F1 H1 g1 hh1 r1 => ?_
  refine rb s F1 H1 σ hh1 g1.fh h2 _ fun vs F2 H2 g2 hh2 r2 => ?_
  exact q _ F2 H2 ((g1.mono (msAt_l (m2 := m2))).trans (g2.mono (msAt_r (m1 := m1)))) hh2 ⟨v, vs, rfl, τ.mono g2.ff r1, r2⟩
theorem DA.nil : DA K X Δ [] [] [] Δ [] tNil := ⟨Diff.refl, pa_nil, fun s F H σ hh sm _ Q q => q [] F H (Gr.refl sm) hh rfl⟩
theorem DA.cons {f : S → τ.α} {as : List (AK K S)} (ha : DX K X Δ e τ m1 c1 Δ1 f ta) (hb : DA K X Δ1 es m2 c2 Δ2 as tl) (hs : starEach (e :: es) X.env = (false, eval e X.env) :: starEach es X.env := by rfl) : DA K X Δ (e :: es) (m1 ++ m2) (c1 ++ c2) Δ2 (.fz τ f :: as) (tCons ta tl) := by
  obtain ⟨d1, pa, ra⟩ := ha
  obtain ⟨d2, pb, rb⟩ := hb
  refine ⟨d1.trans d2, pa_cons pa pb hs, fun s F H σ hh sm hc Q q => ?_⟩
  obtain ⟨h1, h2⟩ := conj_app hc
  refine ra s F H σ hh sm h1 _ fun v F1 H1 g1 hh1 r1 => ?_
  refine rb s F1 H1 σ hh1 g1.fh h2 _ fun vs F2 H2 g2 hh2 r2 => ?_
  exact q _ F2 H2 ((g1.mono (msAt_l (m2 := m2))).trans (g2.mono (msAt_r (m1 := m1)))) hh2 ⟨v, vs, rfl, τ.mono g2.ff r1, r2⟩
/-- an own object is lent -/
theorem DA.mu {x : Str} {j : Nat} {f : S → ω.τ.α} {as : List (AK K S)} (h : Δ[j]? = some (.ow ω f)) (hb : DA K X Δ es m2 c2 Δ2 as tl) (hN : X.N[j]? = some x := by rfl) (hv : Vis X.env.scope x := by first | exact Or.inl rfl | exact Or.inr (Or.inl rfl) | exact Or.inr (Or.inr rfl)) (hd : (x == ("__debug__" : Str)) = false := by decide)
    (hcd : (x == ("__classdict__" : Str)) = false := by decide) (hs : starEach (.Name x pos :: es) X.env = (false, eval (.Name x pos) X.env) :: starEach es X.env := by rfl) : DA K X Δ (.Name x pos :: es) m2 c2 Δ2 (.mu j :: as) (tCons (tVar j) tl) := by
  obtain ⟨d2, pb, rb⟩ := hb
  refine ⟨d2, pa_cons (pe_var hN hv hd hcd) pb hs, fun s F H σ hh sm hc Q q => ?_⟩
  have hi : j < σ.length := by rw [hh.len]; exact (List.getElem?_eq_some_iff.mp h).1
  obtain ⟨o, ho⟩ : ∃ o, σ[j]? = some o := ⟨_, List.getElem?_eq_getElem hi⟩
  obtain ⟨p, u, e, _⟩ := hh.at_ j _ o h ho
  refine ⟨.ref p, by rw [ho, e], rb s F H σ hh sm hc _ fun vs F2 H2 g2 hh2 r2 => ?_⟩
  exact q _ F2 H2 g2 hh2 ⟨.ref p, vs, rfl, (show σ[j]? = some (some (.ref p)) by rw [ho, e]), r2⟩

/-! #### displays -/
theorem DX.tup {x1 : Nat} {f : S → HL ts} (h : DTs K X Δ es ts ms cs Δ1 f tl) (hl : ts.length ≤ sizeLine := by decide) : DX K X Δ (.Tuple es x1 pos) (tTp ts) ms cs Δ1 f (L2.tTup tl) := by
  obtain ⟨d1, p, r⟩ := h
  refine ⟨d1, pe_tup p, fun s F H σ hh sm hc Q q => r s F H σ hh sm hc _ fun vs F1 H1 g1 hh1 r1 => ⟨by rw [r1.length]; exact hl, fun a n => ?_⟩⟩
  have g2 : Gr No F1 H1 (upd F1 a (.tup vs)) (upd H1 a (.tup vs)) := Gr.new g1.fh n
  exact q _ _ _ (g1.trans g2.of0) (hh1.grow g2) ⟨a, vs, rfl, upd_same, r1.mono g2.ff⟩
theorem DO.lst {f : S → List τ.α} (h : DL K X Δ es τ ms cs Δ1 f tl) (hl : ∀ s, (f s).length ≤ sizeLine := by intro _; decide) : DO K X Δ (.List es pos) (oList τ) ms cs Δ1 f (tLst tl) := by
  obtain ⟨d1, p, r⟩ := h
  refine ⟨d1, pe_lst p, fun s F H σ hh sm hc Q q => r s F H σ hh sm hc _ fun vs F1 H1 g1 hh1 r1 => ⟨by rw [r1.length]; exact hl s, fun a n => ?_⟩⟩
  obtain ⟨g2, fn, e3⟩ := own_of_new (ω := oList τ) (x := f s) g1.fh n ⟨vs, rfl, r1, hl s⟩
  exact q a _ F1 _ (g1.trans g2.of0) (hh1.grow g2) (g1.dom a n) fn e3 ⟨vs, rfl, r1, hl s⟩

/-! #### items -/
def ixI {α : Type} (d : α) (xs : List α) (i : Int) : α := if 0 ≤ i then xs.getD i.toNat d else xs.getD (i + xs.length).toNat d
def IxOk {α : Type} (xs : List α) (i : Int) : Prop := -(xs.length : Int) ≤ i ∧ i < xs.length
theorem paired_at {α β : Type} {R : α → β → Prop} : ∀ {xs : List α} {ys : List β} {i : Nat} {y : β}, Paired R xs ys → ys[i]? = some y → ∃ x, xs[i]? = some x ∧ R x y
  | _, _, _, _, .nil, h => by simp at h
  | _, _, 0, _, .cons r _, h => by simp at h; subst h; exact ⟨_, rfl, r⟩
  | _, _, i + 1, y, .cons _ t, h => by
    obtain ⟨x, e, r⟩ := paired_at (i := i) t (by simpa using h)
    exact ⟨x, by simpa using e, r⟩
theorem ix_at {α : Type} {d : α} {xs : List α} {i : Int} (h : IxOk xs i) : ∃ j, ixN xs.length i = some j ∧ xs[j]? = some (ixI d xs i) := by
  obtain ⟨h1, h2⟩ := h
  unfold ixN ixI
  by_cases h0 : 0 ≤ i
  · rw [if_pos h0, if_pos h2, if_pos h0]
    refine ⟨i.toNat, rfl, ?_⟩
    have hl : i.toNat < xs.length := by omega
    rw [List.getD_eq_getElem?_getD, List.getElem?_eq_getElem hl]; rfl
  · rw [if_neg h0, if_neg h0, if_pos h1]
    refine ⟨(i + xs.length).toNat, rfl, ?_⟩
    have hl : (i + xs.length).toNat < xs.length := by omega
    rw [List.getD_eq_getElem?_getD, List.getElem?_eq_getElem hl]; rfl
theorem r2_ixL {L : Ty K} {to : L.α → List τ.α} (hl : LL L τ to) {d : τ.α} : R2ok K (rIxL K) L (tInt K) τ [fun x i => IxOk (to x) i] (fun x i => ixI d (to x) i) := fun x y v u F H sm r1 r2 hc Q q => by
  obtain ⟨p, vs, e, sq, pr, _⟩ := hl r1
  subst e r2
  obtain ⟨j, e1, e2⟩ := ix_at (d := d) hc.1
  obtain ⟨z, e3, rz⟩ := paired_at pr e2
  refine ⟨p, vs, y, z, rfl, rfl, sm.seq sq, ?_, q z F H (Gr.refl sm) rz⟩
  unfold atI
  rw [pr.length, e1]
  exact e3
/-- xs[i] -/
theorem DX.ix {L : Ty K} {to : L.α → List τ.α} (hl : LL L τ to) (d : τ.α) {f : S → L.α} {g : S → Int} (ha : DX K X Δ a L m1 c1 Δ1 f ta) (hb : DX K X Δ1 b (tInt K) m2 c2 Δ2 g tb) (hp : PlainIx b := by exact fun _ _ => rfl) (hK : X.K = K := by rfl) : DX K X Δ (.Subscript a b pos) τ (m1 ++ m2) (c1 ++ (c2 ++ [fun s => IxOk (to (f s)) (g s)])) Δ2 (fun s => ixI d (to (f s)) (g s)) (tOp (rIxL K) ta tb) := by
  subst hK
  exact DX.bin (r2_ixL hl) ha hb fun p q => pe_ix ix_list p q hp
/-- the k-th item of a tuple -/
inductive Proj {K : PySem.W.Frag} : (ts : List (Ty K)) → Nat → (τ : Ty K) → (HL ts → τ.α) → Prop
  | last {τ : Ty K} : Proj [τ] 0 τ (fun x => x)
  | zero {τ σ : Ty K} {ts : List (Ty K)} : Proj (τ :: σ :: ts) 0 τ (fun x => x.1)
  | succ {τ σ ρ : Ty K} {ts : List (Ty K)} {k : Nat} {g : HL (σ :: ts) → ρ.α} : Proj (σ :: ts) k ρ g → Proj (τ :: σ :: ts) (k + 1) ρ (fun x => g x.2)
theorem Proj.at {F : Hp} {k : Nat} {g : HL ts → τ.α} (h : Proj ts k τ g) : ∀ {vs : List V} {x : HL ts}, RepAll F ts vs x → ∃ v, vs[k]? = some v ∧ τ.rep F v (g x) := by
  induction h with
  | last => rintro vs x ⟨v, e, r⟩; exact ⟨v, by rw [e]; rfl, r⟩
  | zero => rintro vs x ⟨v, w, e, r, _⟩; exact ⟨v, by rw [e]; rfl, r⟩
  | succ _ ih =>
    rintro vs x ⟨v, w, e, _, r⟩
    obtain ⟨z, e2, r2⟩ := ih r
    exact ⟨z, by rw [e]; exact e2, r2⟩
/-- t[k], k written; t[-k] -/
theorem DX.tix {k j : Nat} {g : HL ts → τ.α} {f : S → HL ts} (ha : DX K X Δ a (tTp ts) m1 c1 Δ1 f ta) (h : Proj ts k τ g) (hp : PlainIx (.Constant (.int (k : Int)) j p') := by exact fun _ _ => rfl) (hK : X.K = K := by rfl) : DX K X Δ (.Subscript a (.Constant (.int (k : Int)) j p') pos) τ m1 c1 Δ1 (fun s => g (f s)) (tOp (rIxT K) ta (tC (.int (k : Int)))) := by
  subst hK
  obtain ⟨d1, pa, ra⟩ := ha
  refine ⟨d1, pe_ix ix_tup pa pe_int hp, fun s F H σ hh sm hc Q q => ra s F H σ hh sm hc _ fun v F1 H1 g1 hh1 ⟨p, vs, e, q1, r⟩ => ?_⟩
  obtain ⟨z, e2, rz⟩ := h.at r
  exact ⟨p, vs, k, z, e, rfl, .inl (.inl (g1.fh _ _ q1)), atI_nat e2, q z F1 H1 g1 hh1 rz⟩
/-! ### what a def promises -/
structure RoomG (k : Nat) (A : Around) : Prop where
  rm : Room k A
  gd : A.guards = some []
/-- a def keeps its promise where nothing is being shown -/
structure FnG (P : Program) (w : World) (K : PySem.W.Frag) (mg : Str → Option Value) (base : Heap) (CX : CXT) (k : Nat) (f : Addr) (fd : FuncData) (ps : List Str) (sp : Sp) : Prop where
  len : ∀ vs H Q E, sp vs H Q E → vs.length = ps.length
  run : ∀ (A : Around) (outer : List Env) (s : Shared) (H : Hp) (args : Args) (us : List Value) (vs : List V) (Q : VK) (E : XK), RoomG k A → Env0 P w K mg base A outer s H → BindsTo s fd args (ps.zip us) → Vals vs us → sp vs H Q E →
    codeAny (model P w) A (.call (.ref f) args) (CR CX outer P w H s Q E) s
theorem RoomG.mono {j k : Nat} {A : Around} (r : RoomG k A) (h : j ≤ k) : RoomG j A := ⟨r.rm.mono h, r.gd⟩
theorem RoomG.deeper {k : Nat} {A : Around} (r : RoomG (k + 1) A) (env : Env) : RoomG k (A.deeper env) := ⟨r.rm.deeper env, r.gd⟩
theorem FnG.mono {P : Program} {w : World} {K : PySem.W.Frag} {mg : Str → Option Value} {base : Heap} {CX : CXT} {j k : Nat} {f : Addr} {fd : FuncData} {ps : List Str} {sp : Sp} (F : FnG P w K mg base CX j f fd ps sp) (h : j ≤ k) : FnG P w K mg base CX k f fd ps sp :=
  ⟨F.len, fun A outer s H args us vs Q E hr => F.run A outer s H args us vs Q E (hr.mono h)⟩
/-- a def by its body -/
theorem fn_g {CX : CXT} {P : Program} {w : World} {mg : Str → Option Value} {base : Heap} {x qual : Str} {st : Stmt} {f : Addr} {fd : FuncData} {N ps : List Str} {k : Nat} {sp : Sp} (F : Fun K x qual st f fd) (Sc : FnScope N ps (defScope st)) (len : ∀ vs H Q E, sp vs H Q E → vs.length = ps.length)
    (hbody : ∀ (cdv : Value) (A : Around) (outer : List Env) (s : Shared) (H : Hp) (vs : List V) (Q : VK) (E : XK), RoomG k (A.deeper (envOfC qual (defScope st) s.heap.objs.size f cdv)) → sp vs H Q E →
      ∃ t, PSs (cxOf CX P w K mg base N qual (defScope st) f cdv A outer s H E) (defBody st) t ∧ t { nx := fun _ H' => Q .non H', rt := Q } (start N vs) H) : FnG P w K mg base CX (k + 1) f fd ps sp := by
  obtain ⟨oc, od, kV, doc, pm, an, cdv, ct, osl, rfl, lk, hcd⟩ := F.ex
  refine ⟨len, fun A outer s H args us vs Q E hr e0 hb rv hsp => ?_⟩
  have KX : K.In s.heap := e0.mod.kin.keeps fun b o e => (e0.bs b o e).1
  refine codeAny_call_function hr.rm.depth (KX _ _ lk) rfl Sc.co Sc.gen rfl (PySem.W.codeRec_of KX hcd) (hb _ _ _ _ ?_)
  refine wpAny_newFunctionEnv_cells Sc.kind (fun z hz => ?_) fun env he s1 y => ?_
  · obtain ⟨n, v⟩ := z
    rcases Sc.par n (List.of_mem_zip hz).1 with q | q
    · exact .inl q
    · exact .inr ⟨q, PySem.W.cellsFrom_some _ _ _ (.inl q)⟩
  subst he
  refine ⟨(e0.mod.nolimit.keeps fun b o e => (e0.bs b o e).1 : s.heap.NoLimit).keeps y.toInCall.keep, codeAny_func ?_⟩
  obtain ⟨t, ht, hq⟩ := hbody cdv A outer s H vs Q E (hr.deeper _) hsp
  have I := inv_start (CX := CX) (f := f) (E := E) Sc hr.rm.hd e0 (len _ _ _ _ hsp) rv y
  refine wpAny_mono (ht.run [] s1 (start N vs) H _ I hq) (fun fl s' hs => ?_) fun _ _ z => z
  cases fl with
  | ret u => obtain ⟨v, σ', H', J, r2, q⟩ := hs; exact ⟨v, H', J.os, J.bare, J.base, J.hok, r2, q⟩
  | next => obtain ⟨σ', H', J, q⟩ := hs; exact ⟨V.non, H', J.os, J.bare, J.base, J.hok, rfl, q⟩
  | brk => obtain ⟨_, _, _, z⟩ := hs; exact False.elim z
  | cont => obtain ⟨_, _, _, z⟩ := hs; exact False.elim z
/-- the call of a def by its name -/
theorem pe_callg {CX : CXT} {k : Nat} {f : Addr} {fd : FuncData} {ps : List Str} {sp : Sp} {E : XK} {x : Str} {p : Pos} {t : TA} (G : FnG X.prog X.w X.K X.mg X.base CX k f fd ps sp) (hr : RoomG k X.A) (hg : Gl X x) (hm : X.mg x = some (.ref f)) (hk : PySem.W.keepIn X.K (.ref f) = true) (hb : Binds X.K fd ps []) (hx : Passes CX X E)
    (ha : PA X (e :: es) t) (hdb : (x == ("__debug__" : Str)) = false := by decide) (he : starEach (e :: es) X.env = (false, eval e X.env) :: starEach es X.env := by rfl) (hpl : (backTo pos (starEach es X.env)).any (·.1) = false := by rfl) :
    PE X (.Call (.Name x p) (e :: es) [] pos) (tCall sp [] E t) := by
  refine ⟨fun pins s σ H Q I h => wpAny_Call_Name_kw (ld_glob I hg hm ?_ hdb)⟩
  refine PySem.W.callWith_K (h₀ := X.base) I.ok.mod.kin hk (thn (ha.run pos pins s σ H _ I h) fun us s1 ⟨vs, H1, I1, r, q⟩ => ⟨I1.kIn, ?_⟩) he hpl
  have q' : sp vs H1 Q E := by rw [← List.append_nil vs]; exact q
  have hl : (us ++ ([] : List Value)).length = ps.length := by rw [List.append_nil, ← r.length]; exact G.len _ _ _ _ q'
  have hbd := hb s1 us I1.kIn hl
  rw [List.append_nil] at hbd
  refine wpAny_call (codeAny_mono (G.run X.A X.stack s1 H1 ⟨us, []⟩ us vs Q E hr I1.env0 hbd r q') fun res s' hq => ?_)
  cases res with
  | error e => exact hx pins σ H1 s1 e s' I1 hq
  | ok fl => cases fl with
    | ret u => exact I1.after hq
    | next => exact hq.elim
    | brk => exact hq.elim
    | cont => exact hq.elim
end
end Dx

/-! Dx, part D: statements, promises over data, loops. -/
namespace Dx
open PySem PySem.Spec PyProof.Rows L2

/-! ### what the statements of a block do -/
section
variable {K : PySem.W.Frag} {S T : Type}
def Own (Δ : Ctx K S) (σ : L2.St) (a : Addr) : Prop := ∃ (i : Nat) (ω : OTy K) (f : S → ω.τ.α), Δ[i]? = some (.ow ω f) ∧ σ[i]? = some (some (.ref a))
/-- behind a block that gave something back -/
structure GrR (Δ : Ctx K S) (σ : L2.St) (F H F1 H1 : Hp) : Prop where
  ff : Same F F1
  fh : Same F1 H1
  fresh : ∀ a o, F1 a = some o → F a = some o ∨ H a = none ∨ Own Δ σ a
  keep : ∀ a o, H a = some o → ¬ Own Δ σ a → H1 a = some o
  dom : ∀ a, H1 a = none → H a = none
/-- behind a block that goes on; mus: the slots that stay -/
structure GrS {S T : Type} (mus : List Nat) (Δ : Ctx K S) (σ : L2.St) (Δ1 : Ctx K T) (σ1 : L2.St) (F H F1 H1 : Hp) : Prop extends GrR Δ σ F H F1 H1 where
  own : ∀ a, Own Δ1 σ1 a → Own Δ σ a ∨ H a = none
  mu : ∀ k ∈ mus, σ1[k]? = σ[k]?
section
variable {U : Type} {mus : List Nat} {Δ : Ctx K S} {Δ1 : Ctx K T} {Δ2 : Ctx K U} {σ σ1 σ2 : L2.St} {F H F1 H1 F2 H2 : Hp}
theorem GrS.reflC (h : Same F H) (hm : ∀ a, Own Δ1 σ a → Own Δ σ a) : GrS mus Δ σ Δ1 σ F H F H := ⟨⟨Same.refl F, h, fun _ _ h => .inl h, fun _ _ h _ => h, fun _ h => h⟩, fun a h => .inl (hm a h), fun _ _ => rfl⟩
theorem GrS.refl (h : Same F H) : GrS mus Δ σ Δ σ F H F H := .reflC h fun _ h => h
theorem GrR.after (a : GrS mus Δ σ Δ1 σ1 F H F1 H1) (b : GrR Δ1 σ1 F1 H1 F2 H2) : GrR Δ σ F H F2 H2 where
  ff := a.ff.trans b.ff
  fh := b.fh
  fresh := fun x o h => by
    rcases b.fresh x o h with z | z | z
    · exact a.fresh x o z
    · exact .inr (.inl (a.dom x z))
    · rcases a.own x z with y | y
      · exact .inr (.inr y)
      · exact .inr (.inl y)
  keep := fun x o h n => b.keep x o (a.keep x o h n) fun z => by
    rcases a.own x z with y | y
    · exact n y
    · rw [h] at y; cases y
  dom := fun x h => a.dom x (b.dom x h)
theorem GrS.trans (a : GrS mus Δ σ Δ1 σ1 F H F1 H1) (b : GrS mus Δ1 σ1 Δ2 σ2 F1 H1 F2 H2) : GrS mus Δ σ Δ2 σ2 F H F2 H2 :=
  { GrR.after a b.toGrR with
    own := fun x h => by
      rcases b.own x h with z | z
      · exact a.own x z
      · exact .inr (a.dom x z)
    mu := fun k h => (b.mu k h).trans (a.mu k h) }
/-- an expression of a block, that changes what the slots ms hold -/
theorem GrS.ofGr {ms : List Nat} {Δ1 : Ctx K S} {s : S} (d : Diff ms Δ Δ1) (hh : Holds Δ s F H σ) (hm : ∀ i ∈ ms, ∃ (ω : OTy K) (f : S → ω.τ.α), Δ[i]? = some (.ow ω f)) (g : Gr (MsAt ms σ) F H F1 H1) : GrS mus Δ σ Δ1 σ F H F1 H1 where
  ff := g.ff
  fh := g.fh
  fresh := fun a o h => (g.fresh a o h).elim .inl fun z => .inr (.inl z)
  keep := fun a o h n => g.keep a o h fun ⟨i, hi, e⟩ => n (by obtain ⟨ω, f, h⟩ := hm i hi; exact ⟨i, ω, f, h, e⟩)
  dom := g.dom
  own := fun a ⟨i, ω, f, h, e⟩ => .inl (by obtain ⟨ω', f', h'⟩ := d.own i ω f h; exact ⟨i, ω', f', h', e⟩)
  mu := fun _ _ => rfl
end
/-- what a def hands back: data that stays, or a new object of one's own -/
inductive RK (K : PySem.W.Frag) : Type 1
  | fz (τ : Ty K)
  | ow (ω : OTy K)
def RK.α : RK K → Type
  | .fz τ => τ.α
  | .ow ω => ω.τ.α
def RetOk (Fr : Addr → Prop) (F1 H1 : Hp) : (ρ : RK K) → V → ρ.α → Prop
  | .fz τ, v, x => τ.rep F1 v x
  | .ow ω, v, x => ∃ p u, v = .ref p ∧ Fr p ∧ F1 p = none ∧ H1 p = some u ∧ ω.own F1 u x
theorem RetOk.dom {Fr Fr' : Addr → Prop} {F1 H1 : Hp} (h : ∀ a, Fr a → Fr' a) : ∀ {ρ : RK K} {v : V} {x : ρ.α}, RetOk Fr F1 H1 ρ v x → RetOk Fr' F1 H1 ρ v x
  | .fz _, _, _, r => r
  | .ow _, _, _, ⟨p, u, e, n, r⟩ => ⟨p, u, e, h p n, r⟩
/-- new, or an own one that is no parameter -/
def Fresh (mus : List Nat) (Δ : Ctx K S) (σ : L2.St) (H : Hp) (p : Addr) : Prop := (H p = none ∨ Own Δ σ p) ∧ ∀ j ∈ mus, σ[j]? ≠ some (some (.ref p))
theorem Fresh.back {mus : List Nat} {Δ : Ctx K S} {Δ1 : Ctx K T} {σ σ1 : L2.St} {F H F1 H1 : Hp} (g : GrS mus Δ σ Δ1 σ1 F H F1 H1) {p : Addr} (h : Fresh mus Δ1 σ1 H1 p) : Fresh mus Δ σ H p := by
  obtain ⟨h1, h2⟩ := h
  refine ⟨?_, fun j m => by rw [← g.mu j m]; exact h2 j m⟩
  rcases h1 with z | z
  · exact .inl (g.dom p z)
  · exact (g.own p z).symm
/-- parameters: data that stays; an own object of the caller's that is changed -/
inductive PK (K : PySem.W.Frag) : Type 1
  | fz (τ : Ty K)
  | mu (ω : OTy K)
def PK.C : PK K → Type
  | .fz τ => τ.α
  | .mu ω => ω.τ.α
def HP : List (PK K) → Type
  | [] => Unit
  | p :: ps => p.C × HP ps
def HM : List (PK K) → Type
  | [] => Unit
  | .fz _ :: ps => HM ps
  | .mu ω :: ps => ω.τ.α × HM ps
def ctx0 : (ps : List (PK K)) → Ctx K (HP ps)
  | [] => []
  | .fz τ :: ps => .fz τ (fun s => s.1) :: (ctx0 ps).map (Slot.comap fun s => s.2)
  | .mu ω :: ps => .ow ω (fun s => s.1) :: (ctx0 ps).map (Slot.comap fun s => s.2)
def MuOk (F1 H1 : Hp) (σ : L2.St) : Nat → (ps : List (PK K)) → HM ps → Prop
  | _, [], _ => True
  | k, .fz _ :: ps, x => MuOk F1 H1 σ (k + 1) ps x
  | k, .mu ω :: ps, x => (∃ p u, σ[k]? = some (some (.ref p)) ∧ F1 p = none ∧ H1 p = some u ∧ ω.own F1 u x.1) ∧ MuOk F1 H1 σ (k + 1) ps x.2
def musOf : Nat → List (PK K) → List Nat
  | _, [] => []
  | k, .fz _ :: ps => musOf (k + 1) ps
  | k, .mu _ :: ps => k :: musOf (k + 1) ps
theorem MuOk.congr {F1 H1 : Hp} {σ σ' : L2.St} : ∀ {ps : List (PK K)} {k : Nat} {x : HM ps}, (∀ j ∈ musOf k ps, σ'[j]? = σ[j]?) → MuOk F1 H1 σ' k ps x → MuOk F1 H1 σ k ps x
  | [], _, _, _, _ => trivial
  | .fz _ :: ps, k, x, h, r => MuOk.congr (ps := ps) h r
  | .mu ω :: ps, k, x, h, ⟨⟨p, u, e, r⟩, t⟩ => ⟨⟨p, u, by rw [← h k (List.mem_cons_self ..)]; exact e, r⟩, MuOk.congr (ps := ps) (fun j m => h j (List.mem_cons_of_mem _ m)) t⟩
/-- the values of the parameters that are changed, at a return -/
inductive MuF (Δ : Ctx K S) : Nat → (ps : List (PK K)) → (S → HM ps) → Prop
  | nil {k : Nat} : MuF Δ k [] (fun _ => ())
  | fz {k : Nat} {τ : Ty K} {ps : List (PK K)} {g : S → HM ps} : MuF Δ (k + 1) ps g → MuF Δ k (.fz τ :: ps) g
  | mu {k : Nat} {ω : OTy K} {ps : List (PK K)} {h : S → ω.τ.α} {g : S → HM ps} : Δ[k]? = some (.ow ω h) → MuF Δ (k + 1) ps g → MuF Δ k (.mu ω :: ps) (fun s => (h s, g s))
theorem MuF.ok {Δ : Ctx K S} {s : S} {F H : Hp} {σ : L2.St} (hh : Holds Δ s F H σ) {k : Nat} {ps : List (PK K)} {g : S → HM ps} (h : MuF Δ k ps g) : MuOk F H σ k ps (g s) := by
  induction h with
  | nil => trivial
  | fz _ ih => exact ih
  | @mu k ω ps h g e _ ih =>
    refine ⟨?_, ih⟩
    have hi : k < σ.length := by rw [hh.len]; exact (List.getElem?_eq_some_iff.mp e).1
    obtain ⟨o, ho⟩ : ∃ o, σ[k]? = some o := ⟨_, List.getElem?_eq_getElem hi⟩
    obtain ⟨p, u, e2, n, hp, w⟩ := hh.at_ k _ o e ho
    exact ⟨p, u, by rw [ho, e2], n, hp, w⟩

variable (K) in
/-- the form of a def's end: parameters, what is handed back, and how they lie in its Lean value -/
structure Fm (R : Type) where
  ps : List (PK K)
  ret : RK K
  res : R → ret.α
  mv : R → HM ps
/-- a statement; a block; a block that returns; one that may -/
def DS (K : PySem.W.Frag) (X : Cx) (mus : List Nat) (Δ : Ctx K S) (st : Stmt) (cs : List (S → Prop)) (Δ1 : Ctx K S) : Prop :=
  ∃ t : TS, PS X st t ∧ ∀ s F H σ, Holds Δ s F H σ → Same F H → Conj cs s → ∀ D : Ends, (∀ σ1 F1 H1, GrS mus Δ σ Δ1 σ1 F H F1 H1 → Holds Δ1 s F1 H1 σ1 → D.nx σ1 H1) → t D σ H
def DN (K : PySem.W.Frag) (X : Cx) (mus : List Nat) (Δ : Ctx K S) (sts : List Stmt) (cs : List (S → Prop)) (Δ1 : Ctx K S) : Prop :=
  ∃ t : TS, PSs X sts t ∧ ∀ s F H σ, Holds Δ s F H σ → Same F H → Conj cs s → ∀ D : Ends, (∀ σ1 F1 H1, GrS mus Δ σ Δ1 σ1 F H F1 H1 → Holds Δ1 s F1 H1 σ1 → D.nx σ1 H1) → t D σ H
def Ret {R : Type} (fm : Fm K R) (Δ : Ctx K S) (σ : L2.St) (F H : Hp) (x : R) (rt : VK) : Prop :=
  ∀ v F1 H1, GrR Δ σ F H F1 H1 → RetOk (Fresh (musOf 0 fm.ps) Δ σ H) F1 H1 fm.ret v (fm.res x) → MuOk F1 H1 σ 0 fm.ps (fm.mv x) → rt v H1
def DR (K : PySem.W.Frag) (X : Cx) {R : Type} (fm : Fm K R) (Δ : Ctx K S) (sts : List Stmt) (cs : List (S → Prop)) (f : S → R) : Prop :=
  ∃ t : TS, PSs X sts t ∧ ∀ s F H σ, Holds Δ s F H σ → Same F H → Conj cs s → ∀ D : Ends, Ret fm Δ σ F H (f s) D.rt → t D σ H
def DSm (K : PySem.W.Frag) (X : Cx) {R : Type} (fm : Fm K R) (Δ : Ctx K S) (st : Stmt) (cs : List (S → Prop)) (r : S → Option R) (Δ1 : Ctx K S) : Prop :=
  ∃ t : TS, PS X st t ∧ ∀ s F H σ, Holds Δ s F H σ → Same F H → Conj cs s → ∀ D : Ends, (∀ x, r s = some x → Ret fm Δ σ F H x D.rt) → (r s = none → ∀ σ1 F1 H1, GrS (musOf 0 fm.ps) Δ σ Δ1 σ1 F H F1 H1 → Holds Δ1 s F1 H1 σ1 → D.nx σ1 H1) → t D σ H
def DM (K : PySem.W.Frag) (X : Cx) {R : Type} (fm : Fm K R) (Δ : Ctx K S) (sts : List Stmt) (cs : List (S → Prop)) (r : S → Option R) (Δ1 : Ctx K S) : Prop :=
  ∃ t : TS, PSs X sts t ∧ ∀ s F H σ, Holds Δ s F H σ → Same F H → Conj cs s → ∀ D : Ends, (∀ x, r s = some x → Ret fm Δ σ F H x D.rt) → (r s = none → ∀ σ1 F1 H1, GrS (musOf 0 fm.ps) Δ σ Δ1 σ1 F H F1 H1 → Holds Δ1 s F1 H1 σ1 → D.nx σ1 H1) → t D σ H
end
section
variable {K : PySem.W.Frag} {X : Cx} {S R : Type} {fm : Fm K R} {Δ Δ1 Δ2 Δ3 : Ctx K S} {st : Stmt} {sts : List Stmt} {e a b c : Expr} {pos p' : Pos} {τ : Ty K} {ω : OTy K} {mus ms m1 m2 : List Nat} {c1 c2 c3 cs : List (S → Prop)} {ta tb : TE} {tx : TT}
theorem Ret.back {σ σ1 : L2.St} {F H F1 H1 : Hp} {x : R} {rt : VK} (r : Ret fm Δ σ F H x rt) (g : GrS (musOf 0 fm.ps) Δ σ Δ1 σ1 F H F1 H1) : Ret fm Δ1 σ1 F1 H1 x rt := fun v F2 H2 g2 ro mo =>
  r v F2 H2 (GrR.after g g2) (ro.dom fun _ => Fresh.back g) (mo.congr fun j h => g.mu j h)
theorem DN.nil : DN K X mus Δ [] [] Δ := ⟨_, pss_nil, fun s F H σ hh sm _ D q => q σ F H (GrS.refl sm) hh⟩
theorem DN.cons (h1 : DS K X mus Δ st c1 Δ1) (h2 : DN K X mus Δ1 sts c2 Δ2) : DN K X mus Δ (st :: sts) (c1 ++ c2) Δ2 := by
  obtain ⟨t1, p1, r1⟩ := h1
  obtain ⟨t2, p2, r2⟩ := h2
  refine ⟨_, pss_cons p1 p2, fun s F H σ hh sm hc D q => ?_⟩
  obtain ⟨k1, k2⟩ := conj_app hc
  exact r1 s F H σ hh sm k1 _ fun σ1 F1 H1 g1 hh1 => r2 s F1 H1 σ1 hh1 g1.fh k2 D fun σ2 F2 H2 g2 hh2 => q σ2 F2 H2 (g1.trans g2) hh2
theorem DR.cons {f : S → R} (h1 : DS K X (musOf 0 fm.ps) Δ st c1 Δ1) (h2 : DR K X fm Δ1 sts c2 f) : DR K X fm Δ (st :: sts) (c1 ++ c2) f := by
  obtain ⟨t1, p1, r1⟩ := h1
  obtain ⟨t2, p2, r2⟩ := h2
  refine ⟨_, pss_cons p1 p2, fun s F H σ hh sm hc D q => ?_⟩
  obtain ⟨k1, k2⟩ := conj_app hc
  exact r1 s F H σ hh sm k1 _ fun σ1 F1 H1 g1 hh1 => r2 s F1 H1 σ1 hh1 g1.fh k2 D (q.back g1)
theorem DM.cons {r : S → Option R} (h1 : DS K X (musOf 0 fm.ps) Δ st c1 Δ1) (h2 : DM K X fm Δ1 sts c2 r Δ2) : DM K X fm Δ (st :: sts) (c1 ++ c2) r Δ2 := by
  obtain ⟨t1, p1, r1⟩ := h1
  obtain ⟨t2, p2, r2⟩ := h2
  refine ⟨_, pss_cons p1 p2, fun s F H σ hh sm hc D q1 q2 => ?_⟩
  obtain ⟨k1, k2⟩ := conj_app hc
  exact r1 s F H σ hh sm k1 _ fun σ1 F1 H1 g1 hh1 => r2 s F1 H1 σ1 hh1 g1.fh k2 D (fun x e => (q1 x e).back g1) fun e σ2 F2 H2 g2 hh2 => q2 e σ2 F2 H2 (g1.trans g2) hh2
def orElse {R : Type} (o : Option R) (x : R) : R := match o with | some y => y | none => x
def orElseO {R : Type} (o x : Option R) : Option R := match o with | some y => some y | none => x
theorem DR.consM {f : S → R} {r : S → Option R} (h1 : DSm K X fm Δ st c1 r Δ1) (h2 : DR K X fm Δ1 sts c2 f) : DR K X fm Δ (st :: sts) (c1 ++ [fun s => r s = none → Conj c2 s]) (fun s => orElse (r s) (f s)) := by
  obtain ⟨t1, p1, r1⟩ := h1
  obtain ⟨t2, p2, r2⟩ := h2
  refine ⟨_, pss_cons p1 p2, fun s F H σ hh sm hc D q => ?_⟩
  obtain ⟨k1, k2⟩ := conj_app hc
  refine r1 s F H σ hh sm k1 _ (fun x e => ?_) fun e σ1 F1 H1 g1 hh1 => r2 s F1 H1 σ1 hh1 g1.fh (k2.1 e) D ?_
  · simp only [e, orElse] at q; exact q
  · simp only [e, orElse] at q; exact q.back g1
theorem DM.consM {r r2 : S → Option R} (h1 : DSm K X fm Δ st c1 r Δ1) (h2 : DM K X fm Δ1 sts c2 r2 Δ2) : DM K X fm Δ (st :: sts) (c1 ++ [fun s => r s = none → Conj c2 s]) (fun s => orElseO (r s) (r2 s)) Δ2 := by
  obtain ⟨t1, p1, q1⟩ := h1
  obtain ⟨t2, p2, q2⟩ := h2
  refine ⟨_, pss_cons p1 p2, fun s F H σ hh sm hc D w1 w2 => ?_⟩
  obtain ⟨k1, k2⟩ := conj_app hc
  refine q1 s F H σ hh sm k1 _ (fun x e => ?_) fun e σ1 F1 H1 g1 hh1 => q2 s F1 H1 σ1 hh1 g1.fh (k2.1 e) D (fun x e2 => ?_) fun e2 σ2 F2 H2 g2 hh2 => ?_
  · exact w1 x (by simp only [e, orElseO])
  · exact (w1 x (by simp only [e, orElseO]; exact e2)).back g1
  · exact w2 (by simp only [e, orElseO]; exact e2) σ2 F2 H2 (g1.trans g2) hh2
/-- a block that returns ends a block that may -/
theorem DM.ofR {f : S → R} (h : DR K X fm Δ sts cs f) : DM K X fm Δ sts cs (fun s => some (f s)) Δ1 := by
  obtain ⟨t, p, r⟩ := h
  exact ⟨t, p, fun s F H σ hh sm hc D q1 _ => r s F H σ hh sm hc D (q1 _ rfl)⟩
theorem DM.ofN (h : DN K X (musOf 0 fm.ps) Δ sts cs Δ1) : DM K X fm Δ sts cs (fun _ => none) Δ1 := by
  obtain ⟨t, p, r⟩ := h
  exact ⟨t, p, fun s F H σ hh sm hc D _ q2 => r s F H σ hh sm hc D (q2 rfl)⟩

/-! #### return -/
theorem musOf_own {s : S} {F H : Hp} {σ : L2.St} (hh : Holds Δ s F H σ) : ∀ {ps : List (PK K)} {k : Nat} {g : S → HM ps}, MuF Δ k ps g → ∀ j ∈ musOf k ps, ∃ (ω : OTy K) (f : S → ω.τ.α), Δ[j]? = some (.ow ω f)
  | [], _, _, _, _, h => nomatch h
  | .fz _ :: ps, k, g, .fz t, j, h => musOf_own hh t j h
  | .mu ω :: ps, k, _, .mu e t, j, h => by
    rcases List.mem_cons.mp h with z | z
    · subst z; exact ⟨_, _, e⟩
    · exact musOf_own hh t j z
/-- what is handed back is the Lean value's part -/
structure ResF (fm : Fm K R) (ρ : RK K) (f : S → R) (fe : S → ρ.α) (g : S → HM fm.ps) : Prop where
  kind : fm.ret = ρ
  val : ∀ s, HEq (fm.res (f s)) (fe s)
  mus : ∀ s, fm.mv (f s) = g s
theorem ResF.ok {ρ : RK K} {f : S → R} {fe : S → ρ.α} {g : S → HM fm.ps} (h : ResF fm ρ f fe g) {s : S} {Fr : Addr → Prop} {F1 H1 : Hp} {v : V} (r : RetOk Fr F1 H1 ρ v (fe s)) : RetOk Fr F1 H1 fm.ret v (fm.res (f s)) := by
  have := h.val s
  revert this
  generalize fm.res (f s) = z
  revert z
  rw [h.kind]
  intro z hz
  rw [eq_of_heq hz]
  exact r
theorem DR.ret {f : S → R} {fe : S → τ.α} {g : S → HM fm.ps} (he : DX K X Δ e τ ms c1 Δ1 fe ta) (hm : ∀ i ∈ ms, ∃ (ω : OTy K) (f : S → ω.τ.α), Δ[i]? = some (.ow ω f)) (hg : MuF Δ1 0 fm.ps g) (hr : ResF fm (.fz τ) f fe g) : DR K X fm Δ [.Return (some e) pos] c1 f := by
  obtain ⟨d1, p, r⟩ := he
  refine ⟨_, pss_one (ps_ret p), fun s F H σ hh sm hc D q => r s F H σ hh sm hc _ fun v F1 H1 g1 hh1 r1 => ?_⟩
  exact q v F1 H1 (GrS.ofGr (mus := []) d1 hh hm g1).toGrR (hr.ok (show RetOk _ F1 H1 (.fz τ) v (fe s) from r1)) (by rw [hr.mus]; exact hg.ok hh1)
theorem DR.retO {f : S → R} {fe : S → ω.τ.α} {g : S → HM fm.ps} (he : DO K X Δ e ω ms c1 Δ1 fe ta) (hm : ∀ i ∈ ms, ∃ (ω : OTy K) (f : S → ω.τ.α), Δ[i]? = some (.ow ω f)) (hg : MuF Δ1 0 fm.ps g) (hr : ResF fm (.ow ω) f fe g) : DR K X fm Δ [.Return (some e) pos] c1 f := by
  obtain ⟨d1, p, r⟩ := he
  refine ⟨_, pss_one (ps_ret p), fun s F H σ hh sm hc D q => r s F H σ hh sm hc _ fun p u F1 H1 g1 hh1 n1 n2 e1 o1 => ?_⟩
  have gs := GrS.ofGr (mus := musOf 0 fm.ps) d1 hh hm g1
  refine q _ F1 H1 gs.toGrR (hr.ok ⟨p, u, rfl, ⟨.inl n1, fun j hj z => ?_⟩, n2, e1, o1⟩) (by rw [hr.mus]; exact hg.ok hh1)
  obtain ⟨ω', f', h'⟩ := musOf_own hh1 hg j hj
  obtain ⟨ω2, f2, h2⟩ := d1.own j ω' f' h'
  obtain ⟨q2, u2, e2, _, hp2, _⟩ := hh.at_ j _ _ h2 z
  cases e2
  rw [n1] at hp2
  cases hp2
/-- an own object that stands at a name (no parameter) is handed back -/
theorem DR.retN {f : S → R} {i : Nat} {x : Str} {fe : S → ω.τ.α} {g : S → HM fm.ps} (h : Δ[i]? = some (.ow ω fe)) (hi : i ∉ musOf 0 fm.ps) (hg : MuF Δ 0 fm.ps g) (hr : ResF fm (.ow ω) f fe g) (hN : X.N[i]? = some x := by rfl) (hv : Vis X.env.scope x := by first | exact Or.inl rfl | exact Or.inr (Or.inl rfl) | exact Or.inr (Or.inr rfl)) (hd : (x == ("__debug__" : Str)) = false := by decide)
    (hcd : (x == ("__classdict__" : Str)) = false := by decide) : DR K X fm Δ [.Return (some (.Name x p')) pos] [] f := by
  refine ⟨_, pss_one (ps_ret (pe_var hN hv hd hcd)), fun s F H σ hh sm hc D q => ?_⟩
  have hl : i < σ.length := by rw [hh.len]; exact (List.getElem?_eq_some_iff.mp h).1
  obtain ⟨o, ho⟩ : ∃ o, σ[i]? = some o := ⟨_, List.getElem?_eq_getElem hl⟩
  obtain ⟨p, u, e, n, hp, w⟩ := hh.at_ i _ o h ho
  subst e
  refine ⟨.ref p, ho, q _ F H (GrS.refl (mus := []) sm).toGrR (hr.ok ⟨p, u, rfl, ⟨.inr ⟨i, ω, fe, h, ho⟩, fun j hj z => ?_⟩, n, hp, w⟩) (by rw [hr.mus]; exact hg.ok hh)⟩
  obtain ⟨ω', f', h'⟩ := musOf_own hh hg j hj
  exact hh.sep i j ω ω' fe f' p (fun e => hi (e ▸ hj)) h h' ho z
/-- a def's body -/
def DB (K : PySem.W.Frag) (X : Cx) {R : Type} (fm : Fm K R) (Δ : Ctx K S) (sts : List Stmt) (cs : List (S → Prop)) (f : S → R) : Prop :=
  ∃ t : TS, PSs X sts t ∧ ∀ s F H σ, Holds Δ s F H σ → Same F H → Conj cs s → ∀ Q : VK, Ret fm Δ σ F H (f s) Q → t { nx := fun _ H' => Q .non H', rt := Q } σ H
theorem DB.ofR {f : S → R} (h : DR K X fm Δ sts cs f) : DB K X fm Δ sts cs f := by
  obtain ⟨t, p, r⟩ := h
  exact ⟨t, p, fun s F H σ hh sm hc Q q => r s F H σ hh sm hc _ q⟩
/-- the end of the body without a return: None -/
theorem DB.ofN {f : S → R} {g : S → HM fm.ps} (he : DN K X (musOf 0 fm.ps) Δ sts c1 Δ1) (hg : MuF Δ1 0 fm.ps g) (hr : ResF fm (.fz (tNone K)) f (fun _ => ()) g) : DB K X fm Δ sts c1 f := by
  obtain ⟨t, p, r⟩ := he
  refine ⟨t, p, fun s F H σ hh sm hc Q q => r s F H σ hh sm hc _ fun σ1 F1 H1 g1 hh1 => ?_⟩
  exact q .non F1 H1 g1.toGrR (hr.ok (show RetOk _ F1 H1 (.fz (tNone K)) .non () from rfl)) (by rw [hr.mus]; exact (hg.ok hh1).congr fun j h => g1.mu j h)
end
end Dx

/-! Dx, part E: stores, if, methods that change. -/
namespace Dx
open PySem PySem.Spec PyProof.Rows L2
section
variable {K : PySem.W.Frag} {S : Type} {Δ Δ1 : Ctx K S} {s : S} {F H F1 H1 : Hp} {σ : L2.St} {i : Nat} {τ : Ty K} {ω : OTy K} {mus : List Nat}
def OwnAll (Δ : Ctx K S) : List Nat → Prop
  | [] => True
  | i :: is => (∃ (ω : OTy K) (f : S → ω.τ.α), Δ[i]? = some (.ow ω f)) ∧ OwnAll Δ is
theorem OwnAll.all : ∀ {ms : List Nat}, OwnAll Δ ms → ∀ i ∈ ms, ∃ (ω : OTy K) (f : S → ω.τ.α), Δ[i]? = some (.ow ω f)
  | [], _, _, h => nomatch h
  | j :: ms, h, i, m => by
    rcases List.mem_cons.mp m with e | e
    · subst e; exact h.1
    · exact OwnAll.all h.2 i e
theorem get_set {α : Type} {xs : List α} {i j : Nat} {x y : α} (h : (xs.set i x)[j]? = some y) : (i = j ∧ y = x ∧ i < xs.length) ∨ (i ≠ j ∧ xs[j]? = some y) := by
  by_cases e : i = j
  · subst e
    have hl : i < xs.length := by
      have := (List.getElem?_eq_some_iff.mp h).1
      rwa [List.length_set] at this
    rw [List.getElem?_set_self hl] at h
    exact .inl ⟨rfl, (Option.some.inj h).symm, hl⟩
  · rw [List.getElem?_set_ne e] at h
    exact .inr ⟨e, h⟩
theorem get_set1 {α : Type 1} {xs : List α} {i j : Nat} {x y : α} (h : (xs.set i x)[j]? = some y) : (i = j ∧ y = x ∧ i < xs.length) ∨ (i ≠ j ∧ xs[j]? = some y) := by
  by_cases e : i = j
  · subst e
    have hl : i < xs.length := by
      have := (List.getElem?_eq_some_iff.mp h).1
      rwa [List.length_set] at this
    rw [List.getElem?_set_self hl] at h
    exact .inl ⟨rfl, (Option.some.inj h).symm, hl⟩
  · rw [List.getElem?_set_ne e] at h
    exact .inr ⟨e, h⟩
theorem Holds.setF {v : V} {f : S → τ.α} (hh : Holds Δ s F H σ) (r : τ.rep F v (f s)) : Holds (Δ.set i (.fz τ f)) s F H (σ.set i (some v)) where
  len := by rw [List.length_set, List.length_set, hh.len]
  at_ := fun j sl o e1 e2 => by
    rcases get_set1 e1 with ⟨rfl, rfl, _⟩ | ⟨n, e1⟩
    · rcases get_set e2 with ⟨_, rfl, _⟩ | ⟨n, _⟩
      · exact ⟨v, rfl, r⟩
      · exact absurd rfl n
    · rw [List.getElem?_set_ne n] at e2
      exact hh.at_ j sl o e1 e2
  sep := fun j k ω ω' g g' p n e1 e2 e3 => by
    rcases get_set1 e1 with ⟨_, z, _⟩ | ⟨n1, e1⟩
    · cases z
    · rcases get_set1 e2 with ⟨_, z, _⟩ | ⟨n2, e2⟩
      · cases z
      · rw [List.getElem?_set_ne n1] at e3
        rw [List.getElem?_set_ne n2]
        exact hh.sep j k ω ω' g g' p n e1 e2 e3
theorem Holds.setO {p : Addr} {u : HO} {f : S → ω.τ.α} (hh : Holds Δ s F H σ) (n : F p = none) (hp : H p = some u) (o : ω.own F u (f s)) (hno : ¬ Own Δ σ p) : Holds (Δ.set i (.ow ω f)) s F H (σ.set i (some (.ref p))) where
  len := by rw [List.length_set, List.length_set, hh.len]
  at_ := fun j sl o' e1 e2 => by
    rcases get_set1 e1 with ⟨rfl, rfl, _⟩ | ⟨n1, e1⟩
    · rcases get_set e2 with ⟨_, rfl, _⟩ | ⟨n2, _⟩
      · exact ⟨p, u, rfl, n, hp, o⟩
      · exact absurd rfl n2
    · rw [List.getElem?_set_ne n1] at e2
      exact hh.at_ j sl o' e1 e2
  sep := fun j k ω1 ω2 g g' q ne e1 e2 e3 => by
    rcases get_set1 e1 with ⟨rfl, z, hl⟩ | ⟨n1, e1⟩
    · rw [List.getElem?_set_self (by rw [hh.len]; exact hl)] at e3
      cases e3
      rcases get_set1 e2 with ⟨z2, _, _⟩ | ⟨n2, e2⟩
      · exact absurd z2 ne
      · rw [List.getElem?_set_ne n2]
        intro e4
        exact hno ⟨k, ω2, g', e2, e4⟩
    · rw [List.getElem?_set_ne n1] at e3
      rcases get_set1 e2 with ⟨rfl, z, hl⟩ | ⟨n2, e2⟩
      · rw [List.getElem?_set_self (by rw [hh.len]; exact hl)]
        intro e4
        cases e4
        exact hno ⟨j, ω1, g, e1, e3⟩
      · rw [List.getElem?_set_ne n2]
        exact hh.sep j k ω1 ω2 g g' q ne e1 e2 e3
/-- an own object is changed -/
theorem Holds.mut {p : Addr} {u' : HO} {f f' : S → ω.τ.α} (hh : Holds Δ s F H σ) (h : Δ[i]? = some (.ow ω f)) (hσ : σ[i]? = some (some (.ref p))) (o : ω.own F u' (f' s)) : Holds (Δ.set i (.ow ω f')) s F (upd H p u') σ where
  len := by rw [List.length_set, hh.len]
  at_ := fun j sl o' e1 e2 => by
    obtain ⟨q, u, e3, n, hp, _⟩ := hh.at_ i _ _ h hσ
    cases e3
    rcases get_set1 e1 with ⟨rfl, rfl, _⟩ | ⟨n1, e1⟩
    · rw [hσ] at e2; cases e2
      exact ⟨p, u', rfl, n, upd_same, o⟩
    · have r := hh.at_ j sl o' e1 e2
      cases sl with
      | dead => trivial
      | fz τ g => exact r
      | ow ω2 g =>
        obtain ⟨p2, u2, e4, n2, hp2, o2⟩ := r
        subst e4
        refine ⟨p2, u2, rfl, n2, ?_, o2⟩
        rw [upd_ne fun z => hh.sep i j ω ω2 f g p n1 h e1 hσ (by rw [e2, z])]
        exact hp2
  sep := fun j k ω1 ω2 g g' q ne e1 e2 e3 => by
    have ok : ∀ {j : Nat} {ω1 : OTy K} {g : S → ω1.τ.α}, (Δ.set i (.ow ω f'))[j]? = some (.ow ω1 g) → ∃ (ω' : OTy K) (g' : S → ω'.τ.α), Δ[j]? = some (.ow ω' g') := fun {j ω1 g} e => by
      rcases get_set1 e with ⟨rfl, _, _⟩ | ⟨_, e⟩
      · exact ⟨_, _, h⟩
      · exact ⟨_, _, e⟩
    obtain ⟨_, _, k1⟩ := ok e1
    obtain ⟨_, _, k2⟩ := ok e2
    exact hh.sep j k _ _ _ _ q ne k1 k2 e3
theorem diff_mut {f f' : S → ω.τ.α} (h : Δ[i]? = some (.ow ω f)) : Diff [i] Δ (Δ.set i (.ow ω f')) := ⟨List.length_set .., fun k n => List.getElem?_set_ne fun e => n (by rw [e]; exact List.mem_singleton.mpr rfl), fun k ω2 g e => by
  rcases get_set1 e with ⟨rfl, _, _⟩ | ⟨_, e⟩
  · exact ⟨_, _, h⟩
  · exact ⟨_, _, e⟩⟩
theorem gr_mut {p : Addr} {u' : HO} (sm : Same F H) (n : F p = none) (hp : H p ≠ none) (hσ : σ[i]? = some (some (.ref p))) : Gr (MsAt [i] σ) F H F (upd H p u') where
  ff := Same.refl F
  fh := fun a o e => by rw [upd_ne (ne_of_none e n)]; exact sm a o e
  fresh := fun a o e => .inl e
  keep := fun a o e nb => by rw [upd_ne fun z => nb ⟨i, List.mem_singleton.mpr rfl, by rw [z]; exact hσ⟩]; exact e
  dom := fun a e => by
    by_cases z : a = p
    · subst z; rw [upd_same] at e; cases e
    · rw [upd_ne z] at e; exact e
/-- a name is stored -/
theorem GrS.set {sl : Slot K S} {o : Option V} (g : GrS mus Δ σ Δ1 σ F H F1 H1) (hi : i ∉ mus) (hl : Δ1.length = σ.length) (hp : ∀ (ω : OTy K) (f : S → ω.τ.α) p, sl = .ow ω f → o = some (.ref p) → H p = none) : GrS mus Δ σ (Δ1.set i sl) (σ.set i o) F H F1 H1 :=
  { g.toGrR with
    own := fun a ⟨j, ω, f, e1, e2⟩ => by
      rcases get_set1 e1 with ⟨rfl, z, hl2⟩ | ⟨n, e1⟩
      · rw [List.getElem?_set_self (by rw [← hl]; exact hl2)] at e2
        exact .inr (hp ω f a z.symm (Option.some.inj e2))
      · rw [List.getElem?_set_ne n] at e2
        exact g.own a ⟨j, ω, f, e1, e2⟩
    mu := fun k h => by rw [List.getElem?_set_ne (fun (e : i = k) => hi (by rw [e]; exact h))] }
end
section
variable {K : PySem.W.Frag} {X : Cx} {S R : Type} {fm : Fm K R} {Δ Δ1 Δ2 Δ3 Δa Δb Δj : Ctx K S} {st : Stmt} {sts : List Stmt} {e a b c : Expr} {pos p' : Pos} {τ : Ty K} {ts : List (Ty K)} {ω : OTy K} {mus ms m1 m2 : List Nat} {c1 c2 c3 cs : List (S → Prop)} {ta tb : TE} {tx : TT} {tl : TA} {i : Nat} {x : Str}
/-! #### targets -/
/-- the value h s goes to a target -/
def DG (K : PySem.W.Frag) (X : Cx) (Δ : Ctx K S) (tg : Expr) (τ : Ty K) (h : S → τ.α) (is : List Nat) (Δ1 : Ctx K S) (g : TG) : Prop :=
  Δ1.length = Δ.length ∧ PG X tg g ∧ ∀ s F H σ v, Holds Δ s F H σ → Same F H → τ.rep F v (h s) → ∀ Q : L2.St → Hp → Prop, (∀ σ1, Holds Δ1 s F H σ1 → (∀ a, Own Δ1 σ1 a → Own Δ σ a) → (∀ k, k ∉ is → σ1[k]? = σ[k]?) → Q σ1 H) → g v σ H Q
def DGs (K : PySem.W.Frag) (X : Cx) (Δ : Ctx K S) (tgs : List Expr) (ts : List (Ty K)) (h : S → HL ts) (is : List Nat) (Δ1 : Ctx K S) (g : TGs) : Prop :=
  Δ1.length = Δ.length ∧ PGs X tgs g ∧ ∀ s F H σ vs, Holds Δ s F H σ → Same F H → RepAll F ts vs (h s) → ∀ Q : L2.St → Hp → Prop, (∀ σ1, Holds Δ1 s F H σ1 → (∀ a, Own Δ1 σ1 a → Own Δ σ a) → (∀ k, k ∉ is → σ1[k]? = σ[k]?) → Q σ1 H) → g vs σ H Q
theorem DG.name {h : S → τ.α} (hN : X.N.Nodup) (hi : X.N[i]? = some x) (hx : Loc X.env.scope x) (hf : X.fn x = true ∨ X.env.scope.names.lookup x = some .local := by first | exact .inl rfl | exact .inr rfl | assumption) : DG K X Δ (.Name x pos) τ h [i] (Δ.set i (.fz τ h)) (gName i) :=
  ⟨List.length_set .., pg_name hN hi hx hf, fun s F H σ v hh sm r Q q => q _ (hh.setF r) (fun a ⟨j, ω, f, e1, e2⟩ => by
    rcases get_set1 e1 with ⟨_, z, _⟩ | ⟨n, e1⟩
    · cases z
    · rw [List.getElem?_set_ne n] at e2
      exact ⟨j, ω, f, e1, e2⟩) fun k n => List.getElem?_set_ne fun e => n (by rw [e]; exact List.mem_singleton.mpr rfl)⟩
theorem DGs.one {h : S → τ.α} {g : TG} {is : List Nat} (ha : DG K X Δ e τ h is Δ1 g) (hs : (assignEach [e] X.env).map (·.2) = assign e X.env :: (assignEach [] X.env).map (·.2) := by rfl) : DGs K X Δ [e] [τ] h is Δ1 (gCons g gNil) :=
  ⟨ha.1, pgs_cons ha.2.1 pgs_nil hs, fun s F H σ vs hh sm ⟨v, ev, r⟩ Q q => ⟨v, [], ev, ha.2.2 s F H σ v hh sm r _ fun σ1 k1 k2 k3 => ⟨rfl, q σ1 k1 k2 k3⟩⟩⟩
theorem DGs.cons {σt : Ty K} {es : List Expr} {h : S → HL (τ :: σt :: ts)} {g : TG} {gs : TGs} {is js : List Nat} (ha : DG K X Δ e τ (fun s => (h s).1) is Δ1 g) (hb : DGs K X Δ1 es (σt :: ts) (fun s => (h s).2) js Δ2 gs) (hs : (assignEach (e :: es) X.env).map (·.2) = assign e X.env :: (assignEach es X.env).map (·.2) := by rfl) :
    DGs K X Δ (e :: es) (τ :: σt :: ts) h (is ++ js) Δ2 (gCons g gs) :=
  ⟨hb.1.trans ha.1, pgs_cons ha.2.1 hb.2.1 hs, fun s F H σ vs hh sm ⟨v, r, ev, r1, r2⟩ Q q => ⟨v, r, ev, ha.2.2 s F H σ v hh sm r1 _ fun σ1 k1 k2 k3 => hb.2.2 s F H σ1 r k1 sm r2 _ fun σ2 l1 l2 l3 =>
    q σ2 l1 (fun a z => k2 a (l2 a z)) fun k n => (l3 k fun z => n (List.mem_append_right _ z)).trans (k3 k fun z => n (List.mem_append_left _ z))⟩⟩
theorem DG.tup {es : List Expr} {k : Nat} {h : S → HL ts} {gs : TGs} {is : List Nat} (hb : DGs K X Δ es ts h is Δ1 gs) (hc : X.calm = true := by rfl) (hn : (assignEach es X.env).length = ts.length := by rfl) (hst : (assignEach es X.env).findIdx? (·.1) = none := by rfl) (hK : X.K = K := by rfl) : DG K X Δ (.Tuple es k pos) (tTp ts) h is Δ1 (gTup K ts.length gs) := by
  subst hK
  exact ⟨hb.1, pg_tup hc hb.2.1 hn hst, fun s F H σ v hh sm ⟨a, vs, ev, q1, r⟩ Q q => ⟨a, vs, ev, .inl (.inl (sm _ _ q1)), r.length, hb.2.2 s F H σ vs hh sm r Q q⟩⟩
/-- tg = e -/
theorem DS.asg {h : S → τ.α} {tg : Expr} {g : TG} {is : List Nat} (he : DX K X Δ e τ ms c1 Δ1 h ta) (hg : DG K X Δ1 tg τ h is Δ2 g) (hm : OwnAll Δ ms) (hi : ∀ j ∈ is, j ∉ mus) (hs : swapsWithSole [tg] e pos.line X.env = pure false := by rfl) (hw : swappedStores [tg] e X.env = pure none := by rfl)
    (h1 : (assignEach [tg] X.env).map (·.2) = [assign tg X.env] := by rfl) : DS K X mus Δ (.Assign [tg] e pos) c1 Δ2 := by
  obtain ⟨d1, p, r⟩ := he
  refine ⟨_, ps_asg p hg.2.1 hs hw h1, fun s F H σ hh sm hc D q => r s F H σ hh sm hc _ fun v F1 H1 g1 hh1 r1 => hg.2.2 s F1 H1 σ v hh1 g1.fh r1 _ fun σ1 k1 k2 k3 => q σ1 F1 H1 ?_ k1⟩
  have gs : GrS mus Δ σ Δ1 σ F H F1 H1 := GrS.ofGr d1 hh hm.all g1
  exact { gs.toGrR with own := fun a z => gs.own a (k2 a z), mu := fun k m => k3 k fun z => hi k z m }
/-- x = e, a new object of one's own -/
theorem DS.setO {h : S → ω.τ.α} {px : Pos} (he : DO K X Δ e ω ms c1 Δ1 h ta) (hm : OwnAll Δ ms) (hN : X.N.Nodup) (hi : X.N[i]? = some x) (hx : Loc X.env.scope x) (hu : i ∉ mus) (hf : X.fn x = true ∨ X.env.scope.names.lookup x = some .local := by first | exact .inl rfl | exact .inr rfl | assumption) (hs : swapsWithSole [.Name x px] e pos.line X.env = pure false := by rfl) (hw : swappedStores [.Name x px] e X.env = pure none := by rfl)
    (h1 : (assignEach [.Name x px] X.env).map (·.2) = [assign (.Name x px) X.env] := by rfl) : DS K X mus Δ (.Assign [.Name x px] e pos) c1 (Δ1.set i (.ow ω h)) := by
  obtain ⟨d1, p, r⟩ := he
  refine ⟨_, ps_asg p (pg_name hN hi hx hf) hs hw h1, fun s F H σ hh sm hc D q => r s F H σ hh sm hc _ fun a u F1 H1 g1 hh1 n1 n2 e1 o1 => ?_⟩
  have gs : GrS mus Δ σ Δ1 σ F H F1 H1 := GrS.ofGr d1 hh hm.all g1
  refine q _ F1 H1 (gs.set hu hh1.len.symm fun ω f p _ e => by cases e; exact n1) (hh1.setO n2 e1 o1 fun z => ?_)
  obtain ⟨j, ω', f', e2, e3⟩ := z
  exact (d1.was hh e2 e3).2 n1
/-- an own object from here on stays as it is -/
theorem Holds.freeze {s : S} {F H : Hp} {σ : L2.St} {p : Addr} {u : HO} {f : S → ω.τ.α} (hh : Holds Δ s F H σ) (h : Δ[i]? = some (.ow ω f)) (hσ : σ[i]? = some (some (.ref p))) (hp : H p = some u) (n : F p = none) : Holds (Δ.set i (.fz ω.τ f)) s (upd F p u) H σ where
  len := by rw [List.length_set, hh.len]
  at_ := fun j sl o e1 e2 => by
    have sf : Same F (upd F p u) := same_new n
    rcases get_set1 e1 with ⟨rfl, rfl, _⟩ | ⟨n1, e1⟩
    · obtain ⟨q, u2, e3, _, hp2, w⟩ := hh.at_ i _ _ h hσ
      cases e3
      rw [hp] at hp2; cases hp2
      rw [hσ] at e2; cases e2
      exact ⟨.ref p, rfl, ω.frz (ω.mono sf w) upd_same⟩
    · have r := hh.at_ j sl o e1 e2
      cases sl with
      | dead => trivial
      | fz τ g => obtain ⟨v, ev, rv⟩ := r; exact ⟨v, ev, τ.mono sf rv⟩
      | ow ω2 g =>
        obtain ⟨p2, u2, e4, n2, hp2, o2⟩ := r
        subst e4
        refine ⟨p2, u2, rfl, ?_, hp2, ω2.mono sf o2⟩
        rw [upd_ne fun z => hh.sep i j ω ω2 f g p n1 h e1 hσ (by rw [e2, z])]
        exact n2
  sep := fun j k ω1 ω2 g g' q ne e1 e2 e3 => by
    rcases get_set1 e1 with ⟨_, z, _⟩ | ⟨_, e1⟩
    · cases z
    · rcases get_set1 e2 with ⟨_, z, _⟩ | ⟨_, e2⟩
      · cases z
      · exact hh.sep j k ω1 ω2 g g' q ne e1 e2 e3
theorem grs_freeze {s : S} {F H : Hp} {σ : L2.St} {p : Addr} {u : HO} {f : S → ω.τ.α} (hh : Holds Δ s F H σ) (sm : Same F H) (h : Δ[i]? = some (.ow ω f)) (hσ : σ[i]? = some (some (.ref p))) (hp : H p = some u) (n : F p = none) : GrS mus Δ σ (Δ.set i (.fz ω.τ f)) σ F H (upd F p u) H where
  ff := same_new n
  fh := fun a o e => by
    by_cases z : a = p
    · subst z; rw [upd_same] at e; rw [hp]; exact e
    · rw [upd_ne z] at e; exact sm a o e
  fresh := fun a o e => by
    by_cases z : a = p
    · subst z; exact .inr (.inr ⟨i, ω, f, h, hσ⟩)
    · rw [upd_ne z] at e; exact .inl e
  keep := fun a o e _ => e
  dom := fun a e => e
  own := fun a ⟨j, ω2, g, e1, e2⟩ => by
    rcases get_set1 e1 with ⟨_, z, _⟩ | ⟨_, e1⟩
    · cases z
    · exact .inl ⟨j, ω2, g, e1, e2⟩
  mu := fun _ _ => rfl
theorem own_at {s : S} {F H : Hp} {σ : L2.St} {f : S → ω.τ.α} (hh : Holds Δ s F H σ) (h : Δ[i]? = some (.ow ω f)) : ∃ p u, σ[i]? = some (some (.ref p)) ∧ F p = none ∧ H p = some u ∧ ω.own F u (f s) := by
  have hl : i < σ.length := by rw [hh.len]; exact (List.getElem?_eq_some_iff.mp h).1
  obtain ⟨o, ho⟩ : ∃ o, σ[i]? = some o := ⟨_, List.getElem?_eq_getElem hl⟩
  obtain ⟨p, u, e, r⟩ := hh.at_ i _ o h ho
  exact ⟨p, u, by rw [ho, e], r⟩
theorem DN.freeze (i : Nat) {f : S → ω.τ.α} (h : Δ[i]? = some (.ow ω f)) (hb : DN K X mus (Δ.set i (.fz ω.τ f)) sts cs Δ1) : DN K X mus Δ sts cs Δ1 := by
  obtain ⟨t, p, r⟩ := hb
  refine ⟨t, p, fun s F H σ hh sm hc D q => ?_⟩
  obtain ⟨a, u, e1, e2, e3, _⟩ := own_at hh h
  have g := grs_freeze (mus := mus) hh sm h e1 e3 e2
  exact r s _ H σ (hh.freeze h e1 e3 e2) g.fh hc D fun σ1 F1 H1 g1 hh1 => q σ1 F1 H1 (g.trans g1) hh1
theorem DR.freeze (i : Nat) {f : S → ω.τ.α} {g : S → R} (h : Δ[i]? = some (.ow ω f)) (hb : DR K X fm (Δ.set i (.fz ω.τ f)) sts cs g) : DR K X fm Δ sts cs g := by
  obtain ⟨t, p, r⟩ := hb
  refine ⟨t, p, fun s F H σ hh sm hc D q => ?_⟩
  obtain ⟨a, u, e1, e2, e3, _⟩ := own_at hh h
  have g := grs_freeze (mus := musOf 0 fm.ps) hh sm h e1 e3 e2
  exact r s _ H σ (hh.freeze h e1 e3 e2) g.fh hc D (q.back g)
theorem DM.freeze (i : Nat) {f : S → ω.τ.α} {g : S → Option R} (h : Δ[i]? = some (.ow ω f)) (hb : DM K X fm (Δ.set i (.fz ω.τ f)) sts cs g Δ1) : DM K X fm Δ sts cs g Δ1 := by
  obtain ⟨t, p, r⟩ := hb
  refine ⟨t, p, fun s F H σ hh sm hc D q1 q2 => ?_⟩
  obtain ⟨a, u, e1, e2, e3, _⟩ := own_at hh h
  have g := grs_freeze (mus := musOf 0 fm.ps) hh sm h e1 e3 e2
  exact r s _ H σ (hh.freeze h e1 e3 e2) g.fh hc D (fun x e => (q1 x e).back g) fun e σ1 F1 H1 g1 hh1 => q2 e σ1 F1 H1 (g.trans g1) hh1

/-! #### if -/
/-- two contexts behind the branches -/
inductive Join (h : S → Bool) : Ctx K S → Ctx K S → Ctx K S → Prop
  | nil : Join h [] [] []
  | same {sl : Slot K S} {Δa Δb Δj : Ctx K S} : Join h Δa Δb Δj → Join h (sl :: Δa) (sl :: Δb) (sl :: Δj)
  | fz {τ : Ty K} {f g : S → τ.α} {Δa Δb Δj : Ctx K S} : Join h Δa Δb Δj → Join h (.fz τ f :: Δa) (.fz τ g :: Δb) (.fz τ (fun s => if h s = true then f s else g s) :: Δj)
  | ow {ω : OTy K} {f g : S → ω.τ.α} {Δa Δb Δj : Ctx K S} : Join h Δa Δb Δj → Join h (.ow ω f :: Δa) (.ow ω g :: Δb) (.ow ω (fun s => if h s = true then f s else g s) :: Δj)
  | dead {sa sb : Slot K S} {Δa Δb Δj : Ctx K S} : Join h Δa Δb Δj → Join h (sa :: Δa) (sb :: Δb) (.dead :: Δj)
/-- told as another context tells it, at s -/
structure AsC {T : Type} (Δ : Ctx K S) (s : S) (Δ' : Ctx K T) (s' : T) : Prop where
  len : Δ'.length = Δ.length
  sl : ∀ (i : Nat) (sl' : Slot K T), Δ'[i]? = some sl' → sl' = .dead ∨ (∃ (τ : Ty K) (f : S → τ.α) (f' : T → τ.α), Δ[i]? = some (.fz τ f) ∧ sl' = .fz τ f' ∧ f s = f' s') ∨ ∃ (ω : OTy K) (f : S → ω.τ.α) (f' : T → ω.τ.α), Δ[i]? = some (.ow ω f) ∧ sl' = .ow ω f' ∧ f s = f' s'
theorem AsC.holds {T : Type} {Δ' : Ctx K T} {s : S} {s' : T} {F H : Hp} {σ : L2.St} (h : AsC Δ s Δ' s') (hh : Holds Δ s F H σ) : Holds Δ' s' F H σ where
  len := hh.len.trans h.len.symm
  at_ := fun i sl o e1 e2 => by
    rcases h.sl i sl e1 with z | ⟨τ, f, f', k1, z, k2⟩ | ⟨ω, f, f', k1, z, k2⟩
    · subst z; trivial
    · subst z
      obtain ⟨v, e, r⟩ := hh.at_ i _ o k1 e2
      exact ⟨v, e, by rw [← k2]; exact r⟩
    · subst z
      obtain ⟨p, u, e, n, hp, r⟩ := hh.at_ i _ o k1 e2
      exact ⟨p, u, e, n, hp, by rw [← k2]; exact r⟩
  sep := fun i j ω ω' f f' p n e1 e2 e3 => by
    rcases h.sl i _ e1 with z | ⟨_, _, _, _, z, _⟩ | ⟨_, _, _, k1, z, _⟩
    · cases z
    · cases z
    · rcases h.sl j _ e2 with y | ⟨_, _, _, _, y, _⟩ | ⟨_, _, _, k2, y, _⟩
      · cases y
      · cases y
      · exact hh.sep i j _ _ _ _ p n k1 k2 e3
theorem AsC.own {T : Type} {Δ' : Ctx K T} {s : S} {s' : T} {σ : L2.St} (h : AsC Δ s Δ' s') (a : Addr) : Own Δ' σ a → Own Δ σ a := fun ⟨i, ω, f, e1, e2⟩ => by
  rcases h.sl i _ e1 with z | ⟨_, _, _, _, z, _⟩ | ⟨_, _, _, k1, z, _⟩
  · cases z
  · cases z
  · exact ⟨i, _, _, k1, e2⟩
theorem AsC.nil {T : Type} {s : S} {s' : T} : AsC ([] : Ctx K S) s ([] : Ctx K T) s' := ⟨rfl, fun i sl e => by simp at e⟩
theorem AsC.cons {T : Type} {s : S} {s' : T} {sl : Slot K S} {sl' : Slot K T} {Δ' : Ctx K T} (h : sl' = .dead ∨ (∃ (τ : Ty K) (f : S → τ.α) (f' : T → τ.α), sl = .fz τ f ∧ sl' = .fz τ f' ∧ f s = f' s') ∨ ∃ (ω : OTy K) (f : S → ω.τ.α) (f' : T → ω.τ.α), sl = .ow ω f ∧ sl' = .ow ω f' ∧ f s = f' s') (t : AsC Δ s Δ' s') : AsC (sl :: Δ) s (sl' :: Δ') s' :=
  ⟨by rw [List.length_cons, List.length_cons, t.len], fun i y e => by
    cases i with
    | zero =>
      have e' : sl' = y := by simpa using e
      subst e'
      rcases h with z | ⟨τ, f, f', k1, k2, k3⟩ | ⟨ω, f, f', k1, k2, k3⟩
      · exact .inl z
      · exact .inr (.inl ⟨τ, f, f', by rw [k1]; rfl, k2, k3⟩)
      · exact .inr (.inr ⟨ω, f, f', by rw [k1]; rfl, k2, k3⟩)
    | succ i => exact t.sl i y (by simpa using e)⟩
theorem AsC.refl {s : S} : ∀ {Δ : Ctx K S}, AsC Δ s Δ s
  | [] => .nil
  | .dead :: Δ => .cons (.inl rfl) AsC.refl
  | .fz τ f :: Δ => .cons (.inr (.inl ⟨τ, f, f, rfl, rfl, rfl⟩)) AsC.refl
  | .ow ω f :: Δ => .cons (.inr (.inr ⟨ω, f, f, rfl, rfl, rfl⟩)) AsC.refl
theorem Join.yes {h : S → Bool} {s : S} (e : h s = true) (j : Join h Δa Δb Δj) : AsC Δa s Δj s := by
  induction j with
  | nil => exact .nil
  | @same sl _ _ _ _ ih =>
    cases sl with
    | dead => exact .cons (.inl rfl) ih
    | fz τ f => exact .cons (.inr (.inl ⟨τ, f, f, rfl, rfl, rfl⟩)) ih
    | ow ω f => exact .cons (.inr (.inr ⟨ω, f, f, rfl, rfl, rfl⟩)) ih
  | @fz τ f g _ _ _ _ ih => exact .cons (.inr (.inl ⟨τ, f, _, rfl, rfl, by simp only [e, if_true]⟩)) ih
  | @ow ω f g _ _ _ _ ih => exact .cons (.inr (.inr ⟨ω, f, _, rfl, rfl, by simp only [e, if_true]⟩)) ih
  | dead _ ih => exact .cons (.inl rfl) ih
theorem Join.no {h : S → Bool} {s : S} (e : h s = false) (j : Join h Δa Δb Δj) : AsC Δb s Δj s := by
  induction j with
  | nil => exact .nil
  | @same sl _ _ _ _ ih =>
    cases sl with
    | dead => exact .cons (.inl rfl) ih
    | fz τ f => exact .cons (.inr (.inl ⟨τ, f, f, rfl, rfl, rfl⟩)) ih
    | ow ω f => exact .cons (.inr (.inr ⟨ω, f, f, rfl, rfl, rfl⟩)) ih
  | @fz τ f g _ _ _ _ ih => exact .cons (.inr (.inl ⟨τ, g, _, rfl, rfl, by simp only [e, if_false, Bool.false_eq_true]⟩)) ih
  | @ow ω f g _ _ _ _ ih => exact .cons (.inr (.inr ⟨ω, g, _, rfl, rfl, by simp only [e, if_false, Bool.false_eq_true]⟩)) ih
  | dead _ ih => exact .cons (.inl rfl) ih
theorem GrS.as {T U : Type} {Δ0 : Ctx K U} {Δ' : Ctx K T} {s : S} {s' : T} {F H F1 H1 : Hp} {σ σ1 : L2.St} (g : GrS mus Δ0 σ Δ σ1 F H F1 H1) (h : AsC Δ s Δ' s') : GrS mus Δ0 σ Δ' σ1 F H F1 H1 := { g.toGrR with own := fun a z => g.own a (h.own a z), mu := g.mu }
theorem gs0 {s : S} {F H F1 H1 : Hp} {σ : L2.St} (hm : OwnAll Δ ms) (d : Diff ms Δ Δ1) (hh : Holds Δ s F H σ) (g : Gr (MsAt ms σ) F H F1 H1) : GrS mus Δ σ Δ1 σ F H F1 H1 := GrS.ofGr d hh hm.all g
theorem DS.ite {h : S → Bool} {sa sb : List Stmt} (hc : DT K X Δ c ms c1 Δ1 h tx) (hm : OwnAll Δ ms) (ha : DN K X mus Δ1 sa c2 Δa) (hb : DN K X mus Δ1 sb c3 Δb) (hj : Join h Δa Δb Δj) : DS K X mus Δ (.If c sa sb pos) (c1 ++ (guardT h c2 ++ guardF h c3)) Δj := by
  obtain ⟨d, pc, rc⟩ := hc
  obtain ⟨t1, p1, r1⟩ := ha
  obtain ⟨t2, p2, r2⟩ := hb
  refine ⟨_, ps_if pc p1 p2, fun s F H σ hh sm hc D q => ?_⟩
  obtain ⟨k1, k2⟩ := conj_app hc
  obtain ⟨k2, k3⟩ := conj_app k2
  refine rc s F H σ hh sm k1 _ fun F1 H1 g1 hh1 => ?_
  have gs : GrS mus Δ σ Δ1 σ F H F1 H1 := gs0 hm d hh g1
  cases e : h s with
  | true => exact r1 s F1 H1 σ hh1 g1.fh (guardT_conj e k2) D fun σ2 F2 H2 g2 hh2 => q σ2 F2 H2 ((gs.trans g2).as (hj.yes e)) ((hj.yes e).holds hh2)
  | false => exact r2 s F1 H1 σ hh1 g1.fh (guardF_conj e k3) D fun σ2 F2 H2 g2 hh2 => q σ2 F2 H2 ((gs.trans g2).as (hj.no e)) ((hj.no e).holds hh2)
theorem DSm.ite {h : S → Bool} {sa sb : List Stmt} {ra rb : S → Option R} (hc : DT K X Δ c ms c1 Δ1 h tx) (hm : OwnAll Δ ms) (ha : DM K X fm Δ1 sa c2 ra Δa) (hb : DM K X fm Δ1 sb c3 rb Δb) (hj : Join h Δa Δb Δj) : DSm K X fm Δ (.If c sa sb pos) (c1 ++ (guardT h c2 ++ guardF h c3)) (fun s => if h s = true then ra s else rb s) Δj := by
  obtain ⟨d, pc, rc⟩ := hc
  obtain ⟨t1, p1, r1⟩ := ha
  obtain ⟨t2, p2, r2⟩ := hb
  refine ⟨_, ps_if pc p1 p2, fun s F H σ hh sm hc D q1 q2 => ?_⟩
  obtain ⟨k1, k2⟩ := conj_app hc
  obtain ⟨k2, k3⟩ := conj_app k2
  refine rc s F H σ hh sm k1 _ fun F1 H1 g1 hh1 => ?_
  have gs : GrS (musOf 0 fm.ps) Δ σ Δ1 σ F H F1 H1 := gs0 hm d hh g1
  cases e : h s with
  | true =>
    simp only [e, if_true] at q1 q2
    exact r1 s F1 H1 σ hh1 g1.fh (guardT_conj e k2) D (fun x z => (q1 x z).back gs) fun z σ2 F2 H2 g2 hh2 => q2 z σ2 F2 H2 ((gs.trans g2).as (hj.yes e)) ((hj.yes e).holds hh2)
  | false =>
    simp only [e, if_false, Bool.false_eq_true] at q1 q2
    exact r2 s F1 H1 σ hh1 g1.fh (guardF_conj e k3) D (fun x z => (q1 x z).back gs) fun z σ2 F2 H2 g2 hh2 => q2 z σ2 F2 H2 ((gs.trans g2).as (hj.no e)) ((hj.no e).holds hh2)
/-- if c: .. return; rest -/
theorem DR.if1 {f g : S → R} {h : S → Bool} {sa rest : List Stmt} (hc : DT K X Δ c ms c1 Δ1 h tx) (hm : OwnAll Δ ms) (ha : DR K X fm Δ1 sa c2 f) (hb : DR K X fm Δ1 rest c3 g) : DR K X fm Δ (.If c sa [] pos :: rest) (c1 ++ [fun s => if h s = true then Conj c2 s else Conj c3 s]) (fun s => if h s = true then f s else g s) := by
  obtain ⟨d, pc, rc⟩ := hc
  obtain ⟨t1, p1, r1⟩ := ha
  obtain ⟨t2, p2, r2⟩ := hb
  refine ⟨_, pss_cons (ps_if pc p1 pss_nil) p2, fun s F H σ hh sm hc D q => ?_⟩
  obtain ⟨k1, k2⟩ := conj_app hc
  obtain ⟨k2, _⟩ := k2
  refine rc s F H σ hh sm k1 _ fun F1 H1 g1 hh1 => ?_
  have gs : GrS (musOf 0 fm.ps) Δ σ Δ1 σ F H F1 H1 := gs0 hm d hh g1
  cases e : h s with
  | true =>
    simp only [e, if_true] at q k2
    exact r1 s F1 H1 σ hh1 g1.fh k2 _ (q.back gs)
  | false =>
    simp only [e, if_false, Bool.false_eq_true] at q k2
    exact r2 s F1 H1 σ hh1 g1.fh k2 D (q.back gs)
end
end Dx

/-! Dx, part F: methods that change, calls of defs, loops, comprehensions. -/
namespace Dx
open PySem PySem.Spec PyProof.Rows L2
section
variable {K : PySem.W.Frag} {X : Cx} {S R : Type} {fm : Fm K R} {Δ Δ1 Δ2 Δ3 Δa Δb Δj : Ctx K S} {st : Stmt} {sts : List Stmt} {e a b c : Expr} {es : List Expr} {pos p' apos : Pos} {τ τ1 τ2 : Ty K} {ts : List (Ty K)} {ω : OTy K} {mus ms m1 m2 : List Nat} {c1 c2 c3 cs : List (S → Prop)} {ta tb : TE} {tx : TT} {tl : TA} {i : Nat} {x : Str}
theorem DS.expr {f : S → τ.α} (he : DX K X Δ e τ ms c1 Δ1 f ta) (hm : OwnAll Δ ms) (hs : swapsWith e none pos.line X.env = pure false := by rfl) : DS K X mus Δ (.Expr e pos) c1 Δ1 := by
  obtain ⟨d1, p, r⟩ := he
  exact ⟨_, ps_expr p hs, fun s F H σ hh sm hc D q => r s F H σ hh sm hc _ fun v F1 H1 g1 hh1 _ => q σ F1 H1 (gs0 hm d1 hh g1) hh1⟩

/-! #### an own list is changed -/
theorem own_list {s : S} {F H : Hp} {σ : L2.St} {f : S → List τ.α} (hh : Holds Δ s F H σ) (h : Δ[i]? = some (.ow (oList τ) f)) : ∃ p vs, σ[i]? = some (some (.ref p)) ∧ F p = none ∧ H p = some (.lst vs) ∧ Paired (τ.rep F) vs (f s) ∧ (f s).length ≤ sizeLine := by
  obtain ⟨p, u, e1, e2, e3, vs, e4, r, z⟩ := own_at hh h
  subst e4
  exact ⟨p, vs, e1, e2, e3, r, z⟩
theorem paired_app {α β : Type} {R : α → β → Prop} : ∀ {xs xs' : List α} {ys ys' : List β}, Paired R xs ys → Paired R xs' ys' → Paired R (xs ++ xs') (ys ++ ys')
  | _, _, _, _, .nil, s => s
  | _, _, _, _, .cons r t, s => .cons r (paired_app t s)
theorem paired_set {α β : Type} {R : α → β → Prop} {x : α} {y : β} (r : R x y) : ∀ {xs : List α} {ys : List β} (i : Nat), Paired R xs ys → Paired R (xs.set i x) (ys.set i y)
  | _, _, _, .nil => .nil
  | _, _, 0, .cons _ t => .cons r t
  | _, _, i + 1, .cons q t => .cons q (paired_set r i t)
/-- x.append(e) -/
theorem DX.append {f : S → List τ.α} {fe : S → τ.α} {px : Pos} (he : DX K X Δ e τ ms c1 Δ1 fe ta) {f0 : S → List τ.α} (h0 : Δ[i]? = some (.ow (oList τ) f0)) (h : Δ1[i]? = some (.ow (oList τ) f)) (hN : X.N[i]? = some x := by rfl) (hv : Vis X.env.scope x := by first | exact Or.inl rfl | exact Or.inr (Or.inl rfl) | exact Or.inr (Or.inr rfl)) (hd : (x == ("__debug__" : Str)) = false := by decide)
    (hcd : (x == ("__classdict__" : Str)) = false := by decide) (hbase : attributeBase (.Name x px) "append" X.env (eval (.Name x px) X.env) = eval (.Name x px) X.env := by rfl)
    (hfew : ((backTo pos (starEach [e] X.env)).all (fun x => !x.1) && (backToKw pos (keywordEach [] X.env)).all (fun x => x.1.isSome)
      && decide ([e].length + ([] : List Keyword).length + (if ([] : List Keyword).isEmpty then 0 else 1) < 30)) = true := by rfl)
    (hline : (apos.endLine == pos.line) = true := by rfl) (hs : starEach [e] X.env = (false, eval e X.env) :: starEach [] X.env := by rfl) (hplain : (backTo pos (starEach [] X.env)).any (·.1) = false := by rfl) (hK : X.K = K := by rfl) :
    DX K X Δ (.Call (.Attribute (.Name x px) "append" apos) [e] [] pos) (tNone K) (ms ++ [i]) (c1 ++ [fun s => (f s).length < sizeLine]) (Δ1.set i (.ow (oList τ) fun s => f s ++ [fe s])) (fun _ => ()) (tBM K "list" rAppend (tVar i) (tCons ta tNil)) := by
  subst hK
  obtain ⟨d1, p, r⟩ := he
  refine ⟨d1.trans (diff_mut h), pe_bm PySem.F.plainAttrs_list PySem.F.slot_list_append PySem.F.type_list_append mt_append (pe_var hN hv hd hcd) (pa_cons p pa_nil hs) hbase hfew hline hs hplain, fun s F H σ hh sm hc Q q => ?_⟩
  obtain ⟨k1, k2, _⟩ := conj_app hc
  obtain ⟨p0, vs0, e1, _, e3, _⟩ := own_list hh h0
  have hl : tyV X.K "list" (.ref p0) H := .inl ⟨rfl, _, .inl (.inl e3)⟩
  refine ⟨.ref p0, e1, hl, r s F H σ hh sm k1 _ fun v F1 H1 g1 hh1 r1 => ?_⟩
  obtain ⟨p1, vs, f1, f2, f3, f4, f5⟩ := own_list hh1 h
  rw [e1] at f1; cases f1
  refine ⟨p0, vs, v, rfl, rfl, f3, by rw [f4.length]; exact k2, ?_⟩
  have g2 := gr_mut (i := i) (u' := .lst (vs ++ [v])) g1.fh f2 (by rw [f3]; exact fun z => nomatch z) e1
  refine q _ F1 _ ((g1.mono (msAt_l (m2 := [i]))).trans (g2.mono (msAt_r (m1 := ms)))) (hh1.mut h e1 ⟨_, rfl, paired_app f4 (.cons r1 .nil), ?_⟩) rfl
  rw [List.length_append]
  exact k2

def setI {α : Type} (xs : List α) (i : Int) (v : α) : List α := xs.set (if 0 ≤ i then i.toNat else (i + xs.length).toNat) v
/-- x[b] = e -/
theorem DS.store {f : S → List τ.α} {fe : S → τ.α} {fi : S → Int} {px p2 : Pos} (he : DX K X Δ e τ ms c1 Δ1 fe ta) (hb : DX K X Δ1 b (tInt K) [] c2 Δ1 fi tb) (hm : OwnAll Δ ms) (h : Δ1[i]? = some (.ow (oList τ) f)) (hN : X.N[i]? = some x := by rfl) (hv : Vis X.env.scope x := by first | exact Or.inl rfl | exact Or.inr (Or.inl rfl) | exact Or.inr (Or.inr rfl)) (hd : (x == ("__debug__" : Str)) = false := by decide)
    (hcd : (x == ("__classdict__" : Str)) = false := by decide) (ha : ∀ v, assign (.Subscript (.Name x px) b p2) X.env v = (do
      let ov ← holding [v] (eval (.Name x px) X.env)
      let iv ← holding [v, ov] (eval b X.env)
      standAt p2
      holding [v, ov, iv] (setItem ov iv v)
      release [v, ov, iv] []) := by intro _; rfl) (hs : swapsWithSole [.Subscript (.Name x px) b p2] e pos.line X.env = pure false := by rfl) (hw : swappedStores [.Subscript (.Name x px) b p2] e X.env = pure none := by rfl)
    (h1 : (assignEach [.Subscript (.Name x px) b p2] X.env).map (·.2) = [assign (.Subscript (.Name x px) b p2) X.env] := by rfl) :
    DS K X mus Δ (.Assign [.Subscript (.Name x px) b p2] e pos) (c1 ++ (c2 ++ [fun s => IxOk (f s) (fi s)])) (Δ1.set i (.ow (oList τ) fun s => setI (f s) (fi s) (fe s))) := by
  obtain ⟨d1, p, r⟩ := he
  obtain ⟨_, pb, rb⟩ := hb
  refine ⟨_, ps_asg p (pg_sub (pe_var hN hv hd hcd) pb set_list ha) hs hw h1, fun s F H σ hh sm hc D q => ?_⟩
  obtain ⟨k1, k2⟩ := conj_app hc
  obtain ⟨k2, k3, _⟩ := conj_app k2
  refine r s F H σ hh sm k1 _ fun v F1 H1 g1 hh1 r1 => ?_
  obtain ⟨pp, vs, f1, f2, f3, f4, f5⟩ := own_list hh1 h
  refine ⟨.ref pp, f1, rb s F1 H1 σ hh1 g1.fh k2 _ fun iv F2 H2 g2 hh2 r2 => ?_⟩
  rw [msAt_nil] at g2
  obtain ⟨pp', vs', f1', f2', f3', f4', f5'⟩ := own_list hh2 h
  rw [f1] at f1'; cases f1'
  obtain ⟨j, hj, _⟩ := ix_at (d := fe s) k3
  have hj' : j = (if 0 ≤ fi s then (fi s).toNat else (fi s + (f s).length).toNat) := by
    unfold ixN at hj
    split
    · rename_i h0
      rw [if_pos h0] at hj
      split at hj
      · exact (Option.some.inj hj).symm
      · cases hj
    · rename_i h0
      rw [if_neg h0] at hj
      split at hj
      · exact (Option.some.inj hj).symm
      · cases hj
  refine ⟨pp, vs', fi s, j, rfl, r2, f3', by rw [f4'.length]; exact hj, ?_⟩
  have gs : GrS mus Δ σ Δ1 σ F H F1 H1 := gs0 hm d1 hh g1
  have gs2 : GrS mus Δ1 σ Δ1 σ F1 H1 F2 H2 := gs0 (ms := []) trivial Diff.refl hh1 (by rw [msAt_nil]; exact g2)
  have gs3 : GrS mus Δ1 σ (Δ1.set i (.ow (oList τ) fun s => setI (f s) (fi s) (fe s))) σ F2 H2 F2 (upd H2 pp (.lst (vs'.set j v))) := gs0 (ms := [i]) ⟨⟨_, _, h⟩, trivial⟩ (diff_mut h) hh2 (gr_mut g2.fh f2' (by rw [f3']; exact fun z => nomatch z) f1)
  refine q σ F2 _ ((gs.trans gs2).trans gs3) (hh2.mut h f1 ⟨_, rfl, ?_, ?_⟩)
  · unfold setI
    rw [hj']
    exact paired_set (τ.mono g2.ff r1) _ f4'
  · unfold setI
    rw [List.length_set]
    exact f5'
/-- x += e, x an own list, e a new one -/
theorem DS.augL {f fe : S → List τ.α} {px : Pos} (he : DO K X Δ e (oList τ) [] c1 Δ fe ta) (h : Δ[i]? = some (.ow (oList τ) f)) (hN : X.N.Nodup) (hi : X.N[i]? = some x) (hx : Loc X.env.scope x) (hf : X.fn x = true ∨ X.env.scope.names.lookup x = some .local := by first | exact .inl rfl | exact .inr rfl | assumption) : DS K X mus Δ (.AugAssign (.Name x px) .Add e pos) (c1 ++ [fun s => (f s).length + (fe s).length ≤ sizeLine]) (Δ.set i (.ow (oList τ) fun s => f s ++ fe s)) := by
  obtain ⟨d1, p, r⟩ := he
  refine ⟨_, ps_aug hN hi hx p (ti := rExt2) (fun pins s σ H x y v u Q I rx ry h => iop_ext pins s σ H x y v u Q I rx ry h) hf, fun s F H σ hh sm hc D q => ?_⟩
  obtain ⟨k1, k2, _⟩ := conj_app hc
  obtain ⟨p0, vs, e1, e2, e3, e4, e5⟩ := own_list hh h
  refine ⟨.ref p0, e1, r s F H σ hh sm k1 _ fun p1 u F1 H1 g1 hh1 n1 n2 n3 ⟨vs1, w1, w2, w3⟩ => ?_⟩
  subst w1
  rw [msAt_nil] at g1
  have e3' : H1 p0 = some (.lst vs) := g1.same _ _ e3
  refine ⟨p0, p1, vs, vs1, rfl, rfl, e3', n3, by rw [e4.length, w2.length]; exact k2, ?_⟩
  have eσ : σ.set i (some (.ref p0)) = σ := by
    apply List.ext_getElem?
    intro j
    by_cases hj : i = j
    · subst hj
      rw [List.getElem?_set_self (by rw [hh.len]; exact (List.getElem?_eq_some_iff.mp h).1), e1]
    · rw [List.getElem?_set_ne hj]
  show D.nx (σ.set i (some (.ref p0))) _
  rw [eσ]
  have f2 : F1 p0 = none := by
    obtain ⟨_, _, z1, z2, _⟩ := own_list hh1 h
    rw [e1] at z1; cases z1
    exact z2
  have gs : GrS mus Δ σ Δ σ F H F1 H1 := gs0 (ms := []) trivial Diff.refl hh (by rw [msAt_nil]; exact g1)
  have gs3 : GrS mus Δ σ (Δ.set i (.ow (oList τ) fun s => f s ++ fe s)) σ F1 H1 F1 (upd H1 p0 (.lst (vs ++ vs1))) := gs0 (ms := [i]) ⟨⟨_, _, h⟩, trivial⟩ (diff_mut h) hh1 (gr_mut g1.fh f2 (by rw [e3']; exact fun z => nomatch z) e1)
  refine q σ F1 _ (gs.trans gs3) (hh1.mut h e1 ⟨_, rfl, paired_app (paired_mono (fun a b r => τ.mono g1.ff r) e4) w2, ?_⟩)
  rw [List.length_append]
  exact k2

/-! #### calls of defs -/
/-- the arguments are the parameters' -/
inductive Ar {K : PySem.W.Frag} {S : Type} (Δ : Ctx K S) : List (AK K S) → (ps : List (PK K)) → (S → HP ps) → Prop
  | nil : Ar Δ [] [] (fun _ => ())
  | fz {τ : Ty K} {h : S → τ.α} {as : List (AK K S)} {ps : List (PK K)} {g : S → HP ps} : Ar Δ as ps g → Ar Δ (.fz τ h :: as) (.fz τ :: ps) (fun s => (h s, g s))
  | mu {j : Nat} {ω : OTy K} {f : S → ω.τ.α} {as : List (AK K S)} {ps : List (PK K)} {g : S → HP ps} : Δ[j]? = some (.ow ω f) → Ar Δ as ps g → Ar Δ (.mu j :: as) (.mu ω :: ps) (fun s => (f s, g s))
/-- the slots lent -/
def lent {K : PySem.W.Frag} {S : Type} : List (AK K S) → List Nat
  | [] => []
  | .fz _ _ :: as => lent as
  | .mu j :: as => j :: lent as
/-- behind the call: the lent slots hold what the callee says -/
inductive Up {K : PySem.W.Frag} {S : Type} : (Δ : Ctx K S) → List (AK K S) → (ps : List (PK K)) → (S → HM ps) → Ctx K S → Prop
  | nil {Δ : Ctx K S} {r : S → HM []} : Up Δ [] [] r Δ
  | fz {Δ Δ1 : Ctx K S} {τ σ : Ty K} {h : S → τ.α} {as : List (AK K S)} {ps : List (PK K)} {r : S → HM ps} : Up Δ as ps r Δ1 → Up Δ (.fz τ h :: as) (.fz σ :: ps) r Δ1
  | mu {Δ Δ1 : Ctx K S} {j : Nat} {ω : OTy K} {as : List (AK K S)} {ps : List (PK K)} {r : S → HM (.mu ω :: ps)} : Up (Δ.set j (.ow ω fun s => (r s).1)) as ps (fun s => (r s).2) Δ1 → Up Δ (.mu j :: as) (.mu ω :: ps) r Δ1
/-- a def's promise over data -/
def SpOf {R : Type} (fm : Fm K R) (p : HP fm.ps → Prop) (f : HP fm.ps → R) : Sp := fun vs H Q _ => ∃ (F : Hp) (s : HP fm.ps), Holds (ctx0 fm.ps) s F H (vs.map some) ∧ Same F H ∧ p s ∧
  ∀ v F1 H1, Gr (MsAt (musOf 0 fm.ps) (vs.map some)) F H F1 H1 → RetOk (fun q => H q = none) F1 H1 fm.ret v (fm.res (f s)) → MuOk F1 H1 (vs.map some) 0 fm.ps (fm.mv (f s)) → Q v H1
theorem ctx0_length : ∀ ps : List (PK K), (ctx0 ps).length = ps.length
  | [] => rfl
  | .fz τ :: ps => by show (List.map _ (ctx0 ps)).length + 1 = _; rw [List.length_map, ctx0_length ps]; rfl
  | .mu τ :: ps => by show (List.map _ (ctx0 ps)).length + 1 = _; rw [List.length_map, ctx0_length ps]; rfl
theorem SpOf.len {R : Type} {fm : Fm K R} {p : HP fm.ps → Prop} {f : HP fm.ps → R} (vs : List V) (H : Hp) (Q : VK) (E : XK) (h : SpOf fm p f vs H Q E) : vs.length = fm.ps.length := by
  obtain ⟨F, s, h, _⟩ := h
  have := h.len
  rw [List.length_map, ctx0_length] at this
  exact this

theorem ctx0_own : ∀ {ps : List (PK K)} {k : Nat} (i : Nat) (ω : OTy K) (f : HP ps → ω.τ.α), (ctx0 ps)[i]? = some (.ow ω f) → k + i ∈ musOf k ps
  | [], _, _, _, _, h => by simp [ctx0] at h
  | .fz τ :: ps, k, 0, _, _, h => by simp [ctx0] at h
  | .fz τ :: ps, k, i + 1, ω, f, h => by
    have h' : ((ctx0 ps).map (Slot.comap fun s : HP (.fz τ :: ps) => s.2))[i]? = some (.ow ω f) := by simpa [ctx0] using h
    rw [List.getElem?_map] at h'
    obtain ⟨sl, e, c⟩ := Option.map_eq_some_iff.mp h'
    cases sl with
    | dead => cases c
    | fz _ _ => cases c
    | ow ω' f' =>
      have := ctx0_own (k := k + 1) i ω' f' e
      show k + (i + 1) ∈ musOf (k + 1) ps
      rw [show k + (i + 1) = k + 1 + i by omega]
      exact this
  | .mu τ :: ps, k, 0, _, _, h => List.mem_cons_self ..
  | .mu τ :: ps, k, i + 1, ω, f, h => by
    have h' : ((ctx0 ps).map (Slot.comap fun s : HP (.mu τ :: ps) => s.2))[i]? = some (.ow ω f) := by simpa [ctx0] using h
    rw [List.getElem?_map] at h'
    obtain ⟨sl, e, c⟩ := Option.map_eq_some_iff.mp h'
    cases sl with
    | dead => cases c
    | fz _ _ => cases c
    | ow ω' f' =>
      have := ctx0_own (k := k + 1) i ω' f' e
      refine List.mem_cons_of_mem _ ?_
      rw [show k + (i + 1) = k + 1 + i by omega]
      exact this
theorem musOf_ctx0 : ∀ {ps : List (PK K)} {k : Nat} (j : Nat), j ∈ musOf k ps → k ≤ j ∧ ∃ (ω : OTy K) (f : HP ps → ω.τ.α), (ctx0 ps)[j - k]? = some (.ow ω f)
  | [], _, _, h => nomatch h
  | .fz τ :: ps, k, j, h => by
    obtain ⟨h1, ω, f, e⟩ := musOf_ctx0 (ps := ps) (k := k + 1) j h
    refine ⟨by omega, ω, fun s => f s.2, ?_⟩
    rw [show j - k = (j - (k + 1)) + 1 by omega]
    show ((ctx0 ps).map (Slot.comap fun s : HP (.fz τ :: ps) => s.2))[j - (k + 1)]? = _
    rw [List.getElem?_map, e]
    rfl
  | .mu τ :: ps, k, j, h => by
    rcases List.mem_cons.mp h with e | h
    · subst e
      exact ⟨Nat.le_refl _, τ, fun s => s.1, by rw [Nat.sub_self]; rfl⟩
    · obtain ⟨h1, ω, f, e⟩ := musOf_ctx0 (ps := ps) (k := k + 1) j h
      refine ⟨by omega, ω, fun s => f s.2, ?_⟩
      rw [show j - k = (j - (k + 1)) + 1 by omega]
      show ((ctx0 ps).map (Slot.comap fun s : HP (.mu τ :: ps) => s.2))[j - (k + 1)]? = _
      rw [List.getElem?_map, e]
      rfl
def deads (K : PySem.W.Frag) (S : Type) (n : Nat) : Ctx K S := List.replicate n .dead
/-- the context at a def's start -/
def ctxN (n : Nat) (ps : List (PK K)) : Ctx K (HP ps) := ctx0 ps ++ deads K (HP ps) (n - ps.length)
theorem holds_start {ps : List (PK K)} {s : HP ps} {F H : Hp} {vs : List V} {N : List Str} (hh : Holds (ctx0 ps) s F H (vs.map some)) (hn : ps.length ≤ N.length) : Holds (ctxN N.length ps) s F H (L2.start N vs) := by
  have hl : vs.length = ps.length := by have := hh.len; rwa [List.length_map, ctx0_length] at this
  have lm : (vs.map some).length = (ctx0 ps).length := hh.len
  unfold ctxN L2.start deads
  refine ⟨?_, fun i sl o e1 e2 => ?_, fun i j ω ω' f f' p n e1 e2 e3 => ?_⟩
  · rw [List.length_append, List.length_append, lm, List.length_replicate, List.length_replicate, hl]
  · by_cases hi : i < (ctx0 ps).length
    · rw [List.getElem?_append_left hi] at e1
      rw [List.getElem?_append_left (by rw [lm]; exact hi)] at e2
      exact hh.at_ i sl o e1 e2
    · rw [List.getElem?_append_right (by omega), List.getElem?_replicate] at e1
      split at e1
      · cases e1; trivial
      · cases e1
  · have lt : ∀ {i : Nat} {ω : OTy K} {f : HP ps → ω.τ.α}, (ctx0 ps ++ List.replicate (N.length - ps.length) (Slot.dead : Slot K (HP ps)))[i]? = some (.ow ω f) → i < (ctx0 ps).length ∧ (ctx0 ps)[i]? = some (.ow ω f) := fun {i ω f} e => by
      by_cases hi : i < (ctx0 ps).length
      · rw [List.getElem?_append_left hi] at e
        exact ⟨hi, e⟩
      · rw [List.getElem?_append_right (by omega), List.getElem?_replicate] at e
        split at e <;> cases e
    obtain ⟨l1, k1⟩ := lt e1
    obtain ⟨l2, k2⟩ := lt e2
    rw [List.getElem?_append_left (by rw [lm]; exact l1)] at e3
    rw [List.getElem?_append_left (by rw [lm]; exact l2)]
    exact hh.sep i j ω ω' f f' p n k1 k2 e3
theorem start_at {N : List Str} {vs : List V} {j : Nat} (h : j < vs.length) : (L2.start N vs)[j]? = (vs.map some)[j]? := by
  unfold L2.start
  rw [List.getElem?_append_left (by rw [List.length_map]; exact h)]
/-- THE RULE for a def: its body over data -/
theorem def_ok {P : Program} {w : World} {mg : Str → Option Value} {base : Heap} {y qual : Str} {st : Stmt} {f : Addr} {fd : FuncData} {N ps : List Str} {k : Nat} {R : Type} {fm : Fm K R} {p : HP fm.ps → Prop} {fv : HP fm.ps → R} (F : Fun K y qual st f fd) (Sc : FnScope N ps (defScope st)) (hl : fm.ps.length = ps.length) (hn : ps.length ≤ N.length)
    (hb : ∀ (cdv : Value) (A : Around) (outer : List Env) (s : Shared) (H : Hp) (E : XK), RoomG k (A.deeper (envOfC qual (defScope st) s.heap.objs.size f cdv)) →
      ∃ cs, (∀ s, p s → Conj cs s) ∧ DB K (cxOf CX0 P w K mg base N qual (defScope st) f cdv A outer s H E).nox fm (ctxN N.length fm.ps) (defBody st) cs fv) : FnG P w K mg base CX0 (k + 1) f fd ps (SpOf fm p fv) := by
  refine fn_g F Sc (fun vs H Q E h => (SpOf.len vs H Q E h).trans hl) fun cdv A outer s H vs Q E hr h => ?_
  obtain ⟨F0, d, hh, sm, hp, q⟩ := h
  obtain ⟨cs, hcs, t, ht, ht2⟩ := hb cdv A outer s H E hr
  refine ⟨t, ht.nox, ht2 d F0 H (L2.start N vs) (holds_start hh (by omega)) sm (hcs d hp) _ fun v F1 H1 g ro mo => ?_⟩
  have lv : vs.length = fm.ps.length := by have := hh.len; rwa [List.length_map, ctx0_length] at this
  have mlt : ∀ j ∈ musOf 0 fm.ps, j < vs.length := fun j hj => by
    obtain ⟨_, ω, f, e⟩ := musOf_ctx0 (k := 0) j hj
    have := (List.getElem?_eq_some_iff.mp e).1
    rw [ctx0_length] at this
    omega
  have own : ∀ a, Own (ctxN N.length fm.ps) (L2.start N vs) a → MsAt (musOf 0 fm.ps) (vs.map some) a := fun a ⟨i, ω, f, e1, e2⟩ => by
    have hi : i < (ctx0 fm.ps).length ∧ (ctx0 fm.ps)[i]? = some (.ow ω f) := by
      unfold ctxN deads at e1
      by_cases hi : i < (ctx0 fm.ps).length
      · rw [List.getElem?_append_left hi] at e1
        exact ⟨hi, e1⟩
      · rw [List.getElem?_append_right (by omega), List.getElem?_replicate] at e1
        split at e1 <;> cases e1
    have hm := ctx0_own (k := 0) i ω f hi.2
    rw [Nat.zero_add] at hm
    exact ⟨i, hm, by rw [← start_at (mlt i hm)]; exact e2⟩
  refine q v F1 H1 ⟨g.ff, g.fh, fun a o e => ?_, fun a o e n => g.keep a o e fun z => n (own a z), g.dom⟩ (ro.dom fun b hb => ?_) (mo.congr fun j hj => start_at (mlt j hj))
  · rcases g.fresh a o e with z | z | z
    · exact .inl z
    · exact .inr z
    · -- an own parameter is never frozen: it is told by mo
      obtain ⟨j, hj, e2⟩ := own a z
      have : ∀ {ps : List (PK K)} {k : Nat} {x : HM ps} {σ : L2.St}, MuOk F1 H1 σ k ps x → ∀ j ∈ musOf k ps, ∃ p u, σ[j]? = some (some (.ref p)) ∧ F1 p = none ∧ H1 p = some u := by
        intro ps
        induction ps with
        | nil => intro k x σ _ j h; cases h
        | cons pk ps ih =>
          intro k x σ m j h
          cases pk with
          | fz τ => exact ih m j h
          | mu ω =>
            obtain ⟨⟨p, u, w1, w2, w3, _⟩, t⟩ := m
            rcases List.mem_cons.mp h with e | h
            · subst e; exact ⟨p, u, w1, w2, w3⟩
            · exact ih t j h
      obtain ⟨p, u, w1, w2, _⟩ := this mo j hj
      rw [start_at (mlt j hj), e2] at w1
      cases w1
      rw [w2] at e
      cases e
  · rcases hb.1 with z | z
    · exact z
    · obtain ⟨j, hj, e2⟩ := own b z
      exact absurd (by rw [start_at (mlt j hj)]; exact e2) (hb.2 j hj)

/-- what the arguments make the callee's parameters -/
theorem Ar.holds {s : S} {F H : Hp} {σ : L2.St} (hh : Holds Δ s F H σ) (sm : Same F H) {as : List (AK K S)} {ps : List (PK K)} {g : S → HP ps} (ha : Ar Δ as ps g) : ∀ {vs : List V}, AkAll F σ s as vs → (lent as).Nodup → Holds (ctx0 ps) (g s) F H (vs.map some) ∧ ∀ (k : Nat) (ω : OTy K) (f : HP ps → ω.τ.α) (a : Addr), (ctx0 ps)[k]? = some (.ow ω f) → (vs.map some)[k]? = some (some (.ref a)) → ∃ j ∈ lent as, σ[j]? = some (some (.ref a)) ∧ ∃ (ω' : OTy K) (f' : S → ω'.τ.α), Δ[j]? = some (.ow ω' f') := by
  induction ha with
  | nil =>
    intro vs r _
    rw [show vs = [] from r]
    exact ⟨⟨rfl, fun i sl o e => by simp [ctx0] at e, fun i j ω ω' f f' p n e => by simp [ctx0] at e⟩, fun k ω f a e => by simp [ctx0] at e⟩
  | @fz τ h as ps g t ih =>
    rintro vs ⟨v, r, rfl, rv, rr⟩ nd
    obtain ⟨ih1, ih2⟩ := ih rr nd
    have up : ∀ {k : Nat} {ω : OTy K} {f : HP (.fz τ :: ps) → ω.τ.α}, (ctx0 (.fz τ :: ps))[k]? = some (.ow ω f) → ∃ k', k = k' + 1 ∧ ∃ f', (ctx0 ps)[k']? = some (.ow ω f') := fun {k ω f} e => by
      cases k with
      | zero => simp [ctx0] at e
      | succ k =>
        have e' : ((ctx0 ps).map (Slot.comap fun s : HP (.fz τ :: ps) => s.2))[k]? = some (.ow ω f) := by simpa [ctx0] using e
        rw [List.getElem?_map] at e'
        obtain ⟨sl, q1, q2⟩ := Option.map_eq_some_iff.mp e'
        cases sl with
        | dead => cases q2
        | fz _ _ => cases q2
        | ow ω' f' => cases q2; exact ⟨k, rfl, f', q1⟩
    refine ⟨⟨?_, fun i sl o e1 e2 => ?_, fun i j ω ω' f f' p n e1 e2 e3 => ?_⟩, fun k ω f a e1 e2 => ?_⟩
    · have := ih1.len
      rw [List.length_map, ctx0_length] at this
      rw [ctx0_length, List.length_map, List.length_cons, List.length_cons, this]
    · cases i with
      | zero =>
        have e1' : (Slot.fz τ fun s : HP (.fz τ :: ps) => s.1) = sl := by simpa [ctx0] using e1
        have e2' : some v = o := by simpa using e2
        subst e1' e2'
        exact ⟨v, rfl, rv⟩
      | succ i =>
        have e1' : ((ctx0 ps).map (Slot.comap fun s : HP (.fz τ :: ps) => s.2))[i]? = some sl := by simpa [ctx0] using e1
        rw [List.getElem?_map] at e1'
        obtain ⟨sl', q1, q2⟩ := Option.map_eq_some_iff.mp e1'
        have := ih1.at_ i sl' o q1 (by simpa using e2)
        subst q2
        cases sl' <;> exact this
    · obtain ⟨k1, rfl, f1, q1⟩ := up e1
      obtain ⟨k2, rfl, f2, q2⟩ := up e2
      exact ih1.sep k1 k2 ω ω' f1 f2 p (by omega) q1 q2 (by simpa using e3)
    · obtain ⟨k1, rfl, f1, q1⟩ := up e1
      exact ih2 k1 ω f1 a q1 (by simpa using e2)
  | @mu j ω f as ps g e0 t ih =>
    rintro vs ⟨v, r, rfl, rv, rr⟩ nd
    have nd' : j ∉ lent as ∧ (lent as).Nodup := List.nodup_cons.mp nd
    obtain ⟨ih1, ih2⟩ := ih rr nd'.2
    obtain ⟨p0, u0, w1, w2, w3, w4⟩ := own_at hh e0
    have ev : v = .ref p0 := by
      have rv' : σ[j]? = some (some v) := rv
      rw [w1] at rv'
      cases rv'
      rfl
    subst ev
    have up : ∀ {k : Nat} {ω1 : OTy K} {f1 : HP (.mu ω :: ps) → ω1.τ.α}, (ctx0 (.mu ω :: ps))[k + 1]? = some (.ow ω1 f1) → ∃ f', (ctx0 ps)[k]? = some (.ow ω1 f') := fun {k ω1 f1} e => by
      have e' : ((ctx0 ps).map (Slot.comap fun s : HP (.mu ω :: ps) => s.2))[k]? = some (.ow ω1 f1) := by simpa [ctx0] using e
      rw [List.getElem?_map] at e'
      obtain ⟨sl, q1, q2⟩ := Option.map_eq_some_iff.mp e'
      cases sl with
      | dead => cases q2
      | fz _ _ => cases q2
      | ow ω' f' => cases q2; exact ⟨f', q1⟩
    have far : ∀ {k : Nat} {ω1 : OTy K} {f1 : HP ps → ω1.τ.α}, (ctx0 ps)[k]? = some (.ow ω1 f1) → (r.map some)[k]? ≠ some (some (.ref p0)) := fun {k ω1 f1} e z => by
      obtain ⟨j', hj', e1, ω2, f2, e2⟩ := ih2 k ω1 f1 p0 e z
      exact hh.sep j j' ω ω2 f f2 p0 (fun q => nd'.1 (q ▸ hj')) e0 e2 w1 e1
    refine ⟨⟨?_, fun i sl o e1 e2 => ?_, fun i k ω1 ω2 f1 f2 p n e1 e2 e3 => ?_⟩, fun k ω1 f1 a e1 e2 => ?_⟩
    · have := ih1.len
      rw [List.length_map, ctx0_length] at this
      rw [ctx0_length, List.length_map, List.length_cons, List.length_cons, this]
    · cases i with
      | zero =>
        have e1' : (Slot.ow ω fun s : HP (.mu ω :: ps) => s.1) = sl := by simpa [ctx0] using e1
        have e2' : some (V.ref p0) = o := by simpa using e2
        subst e1' e2'
        exact ⟨p0, u0, rfl, w2, w3, w4⟩
      | succ i =>
        have e1' : ((ctx0 ps).map (Slot.comap fun s : HP (.mu ω :: ps) => s.2))[i]? = some sl := by simpa [ctx0] using e1
        rw [List.getElem?_map] at e1'
        obtain ⟨sl', q1, q2⟩ := Option.map_eq_some_iff.mp e1'
        have := ih1.at_ i sl' o q1 (by simpa using e2)
        subst q2
        cases sl' <;> exact this
    · cases i with
      | zero =>
        have e3' : p0 = p := by simpa using e3
        subst e3'
        cases k with
        | zero => exact absurd rfl n
        | succ k =>
          obtain ⟨f', q⟩ := up e2
          simpa using far q
      | succ i =>
        obtain ⟨f', q⟩ := up e1
        cases k with
        | zero =>
          intro z
          have z' : p0 = p := by simpa using z
          subst z'
          exact far q (by simpa using e3)
        | succ k =>
          obtain ⟨f'', q2⟩ := up e2
          exact ih1.sep i k ω1 ω2 f' f'' p (by omega) q q2 (by simpa using e3)
    · cases k with
      | zero =>
        have e2' : p0 = a := by simpa using e2
        subst e2'
        exact ⟨j, List.mem_cons_self .., w1, ω, f, e0⟩
      | succ k =>
        obtain ⟨f', q⟩ := up e1
        obtain ⟨j', hj', r1⟩ := ih2 k ω1 f' a q (by simpa using e2)
        exact ⟨j', List.mem_cons_of_mem _ hj', r1⟩
theorem Ar.muts {as : List (AK K S)} {ps : List (PK K)} {g : S → HP ps} (ha : Ar Δ as ps g) : ∀ (k : Nat) {vs : List V} {F : Hp} {σ : L2.St} {s : S} {us : List (Option V)}, us.length = k → AkAll F σ s as vs → ∀ j ∈ musOf k ps, ∀ a, (us ++ vs.map some)[j]? = some (some (.ref a)) → MsAt (lent as) σ a := by
  induction ha with
  | nil => intro k vs F σ s us _ _ j h; cases h
  | @fz τ h as ps g t ih =>
    rintro k vs F σ s us hu ⟨v, r, rfl, rv, rr⟩ j hj a e
    exact ih (k + 1) (us := us ++ [some v]) (by rw [List.length_append, hu]; rfl) rr j hj a (by simpa using e)
  | @mu j0 ω f as ps g e0 t ih =>
    rintro k vs F σ s us hu ⟨v, r, rfl, rv, rr⟩ j hj a e
    rcases List.mem_cons.mp hj with z | z
    · subst z
      rw [List.getElem?_append_right (by omega), hu, Nat.sub_self] at e
      have e' : v = .ref a := by simpa using e
      subst e'
      exact ⟨j0, List.mem_cons_self .., rv⟩
    · obtain ⟨i, h1, h2⟩ := ih (k + 1) (us := us ++ [some v]) (by rw [List.length_append, hu]; rfl) rr j z a (by simpa using e)
      exact ⟨i, List.mem_cons_of_mem _ h1, h2⟩
/-- behind the call, from what the callee says of the lent objects -/
theorem Up.holds {as : List (AK K S)} {ps : List (PK K)} {r : S → HM ps} {s : S} {F1 H1 : Hp} {σ : L2.St} {Δ Δ2 : Ctx K S} (up : Up Δ as ps r Δ2) : ∀ {k : Nat} {vs : List V} {us : List (Option V)} {F : Hp}, us.length = k → AkAll F σ s as vs → (lent as).Nodup → MuOk F1 H1 (us ++ vs.map some) k ps (r s) →
    (∀ j ∈ lent as, ∃ (ω : OTy K) (f : S → ω.τ.α), Δ[j]? = some (.ow ω f)) → Δ.length = σ.length →
    (∀ i sl o, i ∉ lent as → Δ[i]? = some sl → σ[i]? = some o → SlotOk F1 H1 s o sl) →
    (∀ (i j : Nat) (ω ω' : OTy K) (f : S → ω.τ.α) (f' : S → ω'.τ.α) (p : Addr), i ≠ j → Δ[i]? = some (.ow ω f) → Δ[j]? = some (.ow ω' f') → σ[i]? = some (some (.ref p)) → σ[j]? ≠ some (some (.ref p))) →
    Holds Δ2 s F1 H1 σ ∧ Diff (lent as) Δ Δ2 := by
  induction up with
  | nil =>
    intro k vs us F _ _ _ _ _ hl h sp
    exact ⟨⟨hl.symm, fun i sl o e1 e2 => h i sl o (fun z => nomatch z) e1 e2, sp⟩, Diff.refl⟩
  | fz t ih =>
    rintro k vs us F hu ⟨v, r, rfl, rv, rr⟩ nd mo ow hl h sp
    exact ih (k := k + 1) (us := us ++ [some v]) (by rw [List.length_append, hu]; rfl) rr nd (by rw [List.append_assoc]; exact mo) ow hl h sp
  | @mu Δ Δ1 j ω as ps r t ih =>
    rintro k vs us F hu ⟨v, w, rfl, rv, rr⟩ nd mo ow hl h sp
    have nd' : j ∉ lent as ∧ (lent as).Nodup := List.nodup_cons.mp nd
    obtain ⟨⟨p, u, e1, e2, e3, e4⟩, mo'⟩ := mo
    rw [List.getElem?_append_right (by omega), hu, Nat.sub_self] at e1
    have ev : v = .ref p := by simpa using e1
    subst ev
    obtain ⟨ω0, f0, h0⟩ := ow j (List.mem_cons_self ..)
    have hj : j < Δ.length := (List.getElem?_eq_some_iff.mp h0).1
    have back : ∀ {i : Nat} {ω1 : OTy K} {f1 : S → ω1.τ.α}, (Δ.set j (.ow ω fun s => (r s).1))[i]? = some (.ow ω1 f1) → ∃ (ω' : OTy K) (f' : S → ω'.τ.α), Δ[i]? = some (.ow ω' f') := fun {i ω1 f1} e => by
      rcases get_set1 e with ⟨rfl, _, _⟩ | ⟨_, e⟩
      · exact ⟨_, _, h0⟩
      · exact ⟨_, _, e⟩
    obtain ⟨r1, r2⟩ := ih (k := k + 1) (us := us ++ [some (.ref p)]) (by rw [List.length_append, hu]; rfl) rr nd'.2 (by rw [List.append_assoc]; exact mo') (fun i hi => by
        obtain ⟨ω', f', e⟩ := ow i (List.mem_cons_of_mem _ hi)
        exact ⟨ω', f', by rw [List.getElem?_set_ne fun (z : j = i) => nd'.1 (z ▸ hi)]; exact e⟩)
      (by rw [List.length_set]; exact hl) (fun i sl o ni e5 e6 => by
        rcases get_set1 e5 with ⟨rfl, rfl, _⟩ | ⟨n, e5⟩
        · have rv' : σ[j]? = some (some (.ref p)) := rv
          rw [rv'] at e6; cases e6
          exact ⟨p, u, rfl, e2, e3, e4⟩
        · exact h i sl o (fun z => (List.mem_cons.mp z).elim (fun q => n q.symm) ni) e5 e6)
      (fun i k ω1 ω2 f1 f2 q ne e5 e6 e7 => by
        obtain ⟨_, _, q1⟩ := back e5
        obtain ⟨_, _, q2⟩ := back e6
        exact sp i k _ _ _ _ q ne q1 q2 e7)
    refine ⟨r1, ?_⟩
    have d0 : Diff [j] Δ (Δ.set j (.ow ω fun s => (r s).1)) := ⟨List.length_set .., fun i n => List.getElem?_set_ne fun z => n (by rw [z]; exact List.mem_singleton.mpr rfl), fun i ω1 f1 e => back e⟩
    exact d0.trans r2

/-- f(e, ..) -/
theorem DX.call {k : Nat} {f : Addr} {fd : FuncData} {ps : List Str} {R' : Type} {fm : Fm K R'} {p : HP fm.ps → Prop} {fv : HP fm.ps → R'} {as : List (AK K S)} {g : S → HP fm.ps} {px : Pos} {t : TA} (G : FnG X.prog X.w X.K X.mg X.base CX0 k f fd ps (SpOf fm p fv)) (hr : RoomG k X.A) (hg : Gl X x) (hm : X.mg x = some (.ref f)) (hk : PySem.W.keepIn X.K (.ref f) = true) (hb : Binds X.K fd ps [])
    (ha : DA K X Δ (e :: es) m1 c1 Δ1 as t) (har : Ar Δ1 as fm.ps g) (hup : Up Δ1 as fm.ps (fun s => fm.mv (fv (g s))) Δ2) (hnd : (lent as).Nodup) (hret : fm.ret = .fz τ) {fr : S → τ.α} (hf : ∀ s, HEq (fm.res (fv (g s))) (fr s)) (how : OwnAll Δ1 (lent as)) (hdb : (x == ("__debug__" : Str)) = false := by decide) (he : starEach (e :: es) X.env = (false, eval e X.env) :: starEach es X.env := by rfl) (hpl : (backTo pos (starEach es X.env)).any (·.1) = false := by rfl) :
    DX K X Δ (.Call (.Name x px) (e :: es) [] pos) τ (m1 ++ lent as) (c1 ++ [fun s => p (g s)]) Δ2 fr (tCall (SpOf fm p fv) [] E0 t) := by
  obtain ⟨d1, pa, ra⟩ := ha
  have dd : Diff (lent as) Δ1 Δ2 := by
    clear ra
    have : ∀ {ps : List (PK K)} {r : S → HM ps} {as : List (AK K S)} {Δ Δ2 : Ctx K S}, Up Δ as ps r Δ2 → OwnAll Δ (lent as) → Diff (lent as) Δ Δ2 := by
      intro ps r as Δ Δ2 u
      induction u with
      | nil => intro _; exact Diff.refl
      | fz _ ih => exact ih
      | @mu Δ Δ1 j ω as ps r t ih =>
        rintro ⟨⟨ω0, f0, h0⟩, ow⟩
        have back : ∀ {i : Nat} {ω1 : OTy K} {f1 : S → ω1.τ.α}, Δ[i]? = some (.ow ω1 f1) → ∃ (ω' : OTy K) (f' : S → ω'.τ.α), (Δ.set j (.ow ω fun s => (r s).1))[i]? = some (.ow ω' f') := fun {i ω1 f1} e => by
          by_cases z : j = i
          · subst z
            exact ⟨_, _, List.getElem?_set_self (List.getElem?_eq_some_iff.mp e).1⟩
          · exact ⟨_, _, by rw [List.getElem?_set_ne z]; exact e⟩
        have ow' : ∀ {l : List Nat}, OwnAll Δ l → OwnAll (Δ.set j (.ow ω fun s => (r s).1)) l := by
          intro l
          induction l with
          | nil => intro _; trivial
          | cons a l ih2 =>
            rintro ⟨⟨_, _, w⟩, w2⟩
            exact ⟨back w, ih2 w2⟩
        have d0 : Diff [j] Δ (Δ.set j (.ow ω fun s => (r s).1)) := ⟨List.length_set .., fun i n => List.getElem?_set_ne fun z => n (by rw [z]; exact List.mem_singleton.mpr rfl), fun i ω1 f1 e => by
          rcases get_set1 e with ⟨rfl, _, _⟩ | ⟨_, e⟩
          · exact ⟨_, _, h0⟩
          · exact ⟨_, _, e⟩⟩
        exact d0.trans (ih (ow' ow))
    exact this hup how
  refine ⟨d1.trans dd, pe_callg G hr hg hm hk hb pass0 pa hdb he hpl, fun s F H σ hh sm hc Q q => ?_⟩
  obtain ⟨k1, k2, _⟩ := conj_app hc
  refine ra s F H σ hh sm k1 _ fun vs F1 H1 g1 hh1 r1 => ?_
  show SpOf fm p fv (vs ++ []) H1 Q E0
  rw [List.append_nil]
  obtain ⟨w1, w2⟩ := har.holds hh1 g1.fh r1 hnd
  refine ⟨F1, g s, w1, g1.fh, k2, fun v F2 H2 g2 ro mo => ?_⟩
  have g2' : Gr (MsAt (lent as) σ) F1 H1 F2 H2 := g2.mono fun a ⟨j, hj, e⟩ => har.muts 0 (us := []) rfl r1 j hj a e
  have hh2 := (hup.holds (k := 0) (us := []) rfl r1 hnd mo how.all hh1.len.symm (fun i sl o ni e1 e2 => ?_) hh1.sep).1
  · refine q v F2 H2 ((g1.mono (msAt_l (m2 := lent as))).trans (g2'.mono (msAt_r (m1 := m1)))) hh2 ?_
    have := hf s
    revert this ro
    generalize fm.res (fv (g s)) = z
    revert z
    rw [hret]
    intro z ro hz
    rw [← eq_of_heq hz]
    exact ro
  · -- a slot that is not lent
    have r := hh1.at_ i sl o e1 e2
    cases sl with
    | dead => trivial
    | fz τ f => obtain ⟨v, ev, rv⟩ := r; exact ⟨v, ev, τ.mono g2'.ff rv⟩
    | ow ω f =>
      obtain ⟨p1, u1, ev, n1, h1, o1⟩ := r
      subst ev
      have nl : ¬ MsAt (lent as) σ p1 := fun ⟨j, hj, e3⟩ => by
        obtain ⟨ω', f', e4⟩ := how.all j hj
        exact hh1.sep i j ω ω' f f' p1 (fun z => ni (z ▸ hj)) e1 e4 e2 e3
      refine ⟨p1, u1, rfl, ?_, g2'.keep _ _ h1 nl, ω.mono g2'.ff o1⟩
      cases y : F2 p1 with
      | none => rfl
      | some o' =>
        rcases g2'.fresh p1 o' y with z | z
        · rw [n1] at z; cases z
        · rw [h1] at z; cases z
end
end Dx

/-! Dx, part G: what is walked, for, comprehensions. -/
namespace Dx
open PySem PySem.Spec PyProof.Rows L2
section
variable {K : PySem.W.Frag}
structure Walks (K : PySem.W.Frag) (J : It) (F0 : Hp) (τ : Ty K) (xs : List τ.α) : Prop where
  go : ∀ (i : Nat) (x : τ.α) (F H : Hp), Same F0 F → Same F H → xs[i]? = some x → J.go i H ∧ ∀ v H', J.yld i H v H' → ∃ F', Gr No F H F' H' ∧ τ.rep F' v x
  stop : ∀ (i : Nat) (F H : Hp), Same F0 F → Same F H → xs.length ≤ i → J.stop i H
  len : xs.length ≤ sizeLine
def DI {S : Type} (K : PySem.W.Frag) (X : Cx) (Δ : Ctx K S) (tg iter : Expr) (τ : Ty K) (ms : List Nat) (cs : List (S → Prop)) (Δ1 : Ctx K S) (f : S → List τ.α) (wi : TI) : Prop :=
  Diff ms Δ Δ1 ∧ PI X tg iter wi ∧ ∀ s F H σ, Holds Δ s F H σ → Same F H → Conj cs s → ∀ R : It → Hp → Prop, (∀ J F' H', Gr (MsAt ms σ) F H F' H' → Holds Δ1 s F' H' σ → Walks K J F' τ (f s) → R J H') → wi σ H R
def enumL {α : Type} (xs : List α) : List (Int × α) := xs.zipIdx.map fun p => ((p.2 : Int), p.1)
def rangeL (n : Int) : List Int := (List.range n.toNat).map fun (i : Nat) => (i : Int)
def rangeL2 (lo hi : Int) : List Int := (List.range (hi - lo).toNat).map fun (i : Nat) => lo + (i : Int)
theorem enumL_length {α : Type} (xs : List α) : (enumL xs).length = xs.length := by simp [enumL]
theorem enumL_get {α : Type} (xs : List α) (i : Nat) (x : Int × α) (e : (enumL xs)[i]? = some x) : ∃ y, xs[i]? = some y ∧ x = ((i : Int), y) := by
  unfold enumL at e
  rw [List.getElem?_map] at e
  obtain ⟨q, e1, e2⟩ := Option.map_eq_some_iff.mp e
  rw [List.getElem?_zipIdx] at e1
  obtain ⟨y, e3, e4⟩ := Option.map_eq_some_iff.mp e1
  exact ⟨y, e3, by rw [← e2, ← e4]; simp⟩
theorem zip_get {α β : Type} (xs : List α) (ys : List β) (i : Nat) (x : α × β) (e : (List.zip xs ys)[i]? = some x) : xs[i]? = some x.1 ∧ ys[i]? = some x.2 := List.getElem?_zip_eq_some.mp e
theorem zip_len {α β : Type} (xs : List α) (ys : List β) : (List.zip xs ys).length = min xs.length ys.length := List.length_zip
theorem walks_list {τ : Ty K} {F0 : Hp} {a : Addr} {vs : List V} {xs : List τ.α} (h : SqL K F0 a vs) (p : Paired (τ.rep F0) vs xs) (z : xs.length ≤ sizeLine) : Walks K (Itl K a) F0 τ xs where
  go := fun i x F H s1 s2 e => by
    obtain ⟨v, ev, rv⟩ := paired_at p e
    refine ⟨⟨vs, v, s2.seq (s1.seq h), ev⟩, fun v' H' ⟨e1, e2⟩ => ?_⟩
    subst e1
    have e3 := e2 vs (s2.seq (s1.seq h))
    rw [ev] at e3; cases e3
    exact ⟨F, Gr.refl s2, τ.mono s1 rv⟩
  stop := fun i F H s1 s2 e => ⟨vs, s2.seq (s1.seq h), by rw [p.length]; exact e⟩
  len := z
theorem walks_range {F0 : Hp} {lo : Int} {n : Nat} (z : n ≤ sizeLine) : Walks K (Itr lo n) F0 (tInt K) ((List.range n).map fun (i : Nat) => lo + (i : Int)) where
  go := fun i x F H s1 s2 e => by
    rw [List.getElem?_map] at e
    obtain ⟨j, e1, e2⟩ := Option.map_eq_some_iff.mp e
    have hl := (List.getElem?_eq_some_iff.mp e1).1
    rw [List.length_range] at hl
    rw [List.getElem?_range hl] at e1
    cases e1
    exact ⟨hl, fun v H' ⟨e3, e4⟩ => by
      subst e3
      exact ⟨F, Gr.refl s2, by rw [e4, ← e2]⟩⟩
  stop := fun i F H s1 s2 e => by
    rw [List.length_map, List.length_range] at e
    exact e
  len := by rw [List.length_map, List.length_range]; exact z
theorem new_tup {F H : Hp} {T : Addr} {vs : List V} (sm : Same F H) (n : H T = none) : Gr No F H (upd F T (.tup vs)) (upd H T (.tup vs)) := Gr.new sm n
theorem walks_enum {τ : Ty K} {F0 : Hp} {a : Addr} {vs : List V} {xs : List τ.α} (h : SqL K F0 a vs) (p : Paired (τ.rep F0) vs xs) (z : xs.length ≤ sizeLine) : Walks K (Ite K a) F0 (tTp [tInt K, τ]) (enumL xs) where
  go := fun i x F H s1 s2 e => by
    obtain ⟨y, e3, rfl⟩ := enumL_get (α := τ.α) xs i x e
    obtain ⟨v, ev, rv⟩ := paired_at p e3
    refine ⟨⟨vs, v, s2.seq (s1.seq h), ev⟩, fun v' H' ⟨T, w, r1, r2, r3, r4⟩ => ?_⟩
    have e5 := r4 vs (s2.seq (s1.seq h))
    rw [ev] at e5; cases e5
    subst r1 r3
    exact ⟨_, new_tup s2 r2, T, _, rfl, upd_same, .int (i : Nat), [v], rfl, rfl, v, rfl, τ.mono (s1.trans (same_new (s2.free r2))) rv⟩
  stop := fun i F H s1 s2 e => ⟨vs, s2.seq (s1.seq h), by rw [p.length]; exact (enumL_length (α := τ.α) xs) ▸ e⟩
  len := (enumL_length (α := τ.α) xs).symm ▸ z
theorem walks_zip {τ σ : Ty K} {F0 : Hp} {a b : Addr} {vs ws : List V} {xs : List τ.α} {ys : List σ.α} (h : SqL K F0 a vs) (p : Paired (τ.rep F0) vs xs) (z : xs.length ≤ sizeLine) (h2 : SqL K F0 b ws) (p2 : Paired (σ.rep F0) ws ys) : Walks K (Itz K a b) F0 (tTp [τ, σ]) (List.zip xs ys) where
  go := fun i x F H s1 s2 e => by
    obtain ⟨e1, e2⟩ := zip_get (α := τ.α) (β := σ.α) xs ys i x e
    obtain ⟨v, ev, rv⟩ := paired_at p e1
    obtain ⟨w, ew, rw'⟩ := paired_at p2 e2
    refine ⟨⟨vs, ws, v, w, s2.seq (s1.seq h), s2.seq (s1.seq h2), ev, ew⟩, fun v' H' ⟨T, y1, y2, r1, r2, r3, r4, r5⟩ => ?_⟩
    have e5 := r4 vs (s2.seq (s1.seq h))
    rw [ev] at e5; cases e5
    have e6 := r5 ws (s2.seq (s1.seq h2))
    rw [ew] at e6; cases e6
    subst r1 r3
    have sf := s1.trans (same_new (o := .tup [v, w]) (s2.free r2))
    exact ⟨_, new_tup s2 r2, T, _, rfl, upd_same, v, [w], rfl, τ.mono sf rv, w, rfl, σ.mono sf rw'⟩
  stop := fun i F H s1 s2 e => by
    have e := (zip_len (α := τ.α) (β := σ.α) xs ys) ▸ e
    exact ⟨vs, ws, s2.seq (s1.seq h), s2.seq (s1.seq h2), by rw [p.length, p2.length]; omega⟩
  len := (zip_len (α := τ.α) (β := σ.α) xs ys).symm ▸ (by omega)
end
section
variable {K : PySem.W.Frag} {X : Cx} {S R : Type} {fm : Fm K R} {Δ Δ1 Δ2 Δ3 Δa Δb Δj : Ctx K S} {st : Stmt} {sts body : List Stmt} {e a b c tg iter : Expr} {es elts : List Expr} {pos p' apos : Pos} {τ τ1 τ2 L L2' : Ty K} {ts : List (Ty K)} {ω : OTy K} {mus ms m1 m2 is : List Nat} {c1 c2 c3 cs : List (S → Prop)} {ta tb : TE} {tx : TT} {tl : TA} {i : Nat} {x : Str}
theorem DI.list {to : L.α → List τ.α} {f : S → L.α} (hl : LL L τ to) (he : DX K X Δ e L ms c1 Δ1 f ta) (hK : X.K = K := by rfl) : DI K X Δ tg e τ ms c1 Δ1 (fun s => to (f s)) (iList K ta) := by
  subst hK
  obtain ⟨d1, p, r⟩ := he
  refine ⟨d1, pi_list p, fun s F H σ hh sm hc R q => r s F H σ hh sm hc _ fun v F1 H1 g1 hh1 r1 => ?_⟩
  obtain ⟨a, vs, ev, sq, pr, z⟩ := hl r1
  exact ⟨a, ev, ⟨vs, g1.fh.seq sq⟩, q _ F1 H1 g1 hh1 (walks_list sq pr z)⟩
def RgOk (n : Int) : Prop := -(2 ^ 62) ≤ n ∧ n ≤ sizeLine
theorem DI.range1 {f : S → Int} {px : Pos} (hm : X.mg "range" = none) (he : DX K X Δ e (tInt K) ms c1 Δ1 f ta) (hg : Gl X "range" := by rfl) (hs : starEach [e] X.env = [(false, eval e X.env)] := by rfl) (hs2 : starEach [e] X.env = (false, eval e X.env) :: starEach [] X.env := by rfl) : DI K X Δ tg (.Call (.Name "range" px) [e] [] pos) (tInt K) ms (c1 ++ [fun s => RgOk (f s)]) Δ1 (fun s => rangeL (f s)) (iRng1 (tCons ta tNil)) := by
  obtain ⟨d1, p, r⟩ := he
  refine ⟨d1, pi_range1 hg hm (pa_cons p pa_nil hs2) hs, fun s F H σ hh sm hc R q => ?_⟩
  obtain ⟨k1, ⟨k2, k3⟩, _⟩ := conj_app hc
  refine r s F H σ hh sm k1 _ fun v F1 H1 g1 hh1 r1 => ⟨f s, by rw [r1], k2, ?_, q _ F1 H1 g1 hh1 ?_⟩
  · have : (sizeLine : Int) < 2 ^ 62 := by decide
    omega
  · have h := walks_range (K := K) (F0 := F1) (lo := 0) (n := (f s).toNat) (by omega)
    simp only [Int.zero_add] at h
    exact h
theorem DI.enum {to : L.α → List τ.α} {f : S → L.α} {px tpos : Pos} {kk : Nat} (hl : LL L τ to) (hm : X.mg "enumerate" = none) (he : DX K X Δ e L ms c1 Δ1 f ta) (hg : Gl X "enumerate" := by rfl) (hs : starEach [e] X.env = [(false, eval e X.env)] := by rfl) (hs2 : starEach [e] X.env = (false, eval e X.env) :: starEach [] X.env := by rfl) (hK : X.K = K := by rfl) :
    DI K X Δ (.Tuple elts kk tpos) (.Call (.Name "enumerate" px) [e] [] pos) (tTp [tInt K, τ]) ms c1 Δ1 (fun s => enumL (to (f s))) (iEnum K (tCons ta tNil)) := by
  subst hK
  obtain ⟨d1, p, r⟩ := he
  refine ⟨d1, pi_enum hg hm (pa_cons p pa_nil hs2) hs, fun s F H σ hh sm hc R q => r s F H σ hh sm hc _ fun v F1 H1 g1 hh1 r1 => ?_⟩
  obtain ⟨a, vs, ev, sq, pr, z⟩ := hl r1
  exact ⟨a, vs, by rw [ev], g1.fh.seq sq, q _ F1 H1 g1 hh1 (walks_enum sq pr z)⟩
theorem DI.zip {L1 : Ty K} {to : L.α → List τ.α} {to1 : L1.α → List τ1.α} {f : S → L.α} {g : S → L1.α} {px tpos : Pos} {kk : Nat} (hl : LL L τ to) (hl1 : LL L1 τ1 to1) (hm : X.mg "zip" = none) (he : DX K X Δ a L m1 c1 Δ1 f ta) (hb : DX K X Δ1 b L1 m2 c2 Δ2 g tb) (hg : Gl X "zip" := by rfl) (hs : starEach [a, b] X.env = (false, eval a X.env) :: starEach [b] X.env := by rfl) (hs2 : starEach [b] X.env = (false, eval b X.env) :: starEach [] X.env := by rfl)
    (hpl : (backTo pos (starEach [b] X.env)).any (·.1) = false := by rfl) (hK : X.K = K := by rfl) : DI K X Δ (.Tuple elts kk tpos) (.Call (.Name "zip" px) [a, b] [] pos) (tTp [τ, τ1]) (m1 ++ m2) (c1 ++ c2) Δ2 (fun s => List.zip (to (f s)) (to1 (g s))) (iZip K (tCons ta (tCons tb tNil))) := by
  subst hK
  obtain ⟨d1, p, r⟩ := he
  obtain ⟨d2, p2, r2⟩ := hb
  refine ⟨d1.trans d2, pi_zip hg hm (pa_cons p (pa_cons p2 pa_nil hs2) hs) hs hpl, fun s F H σ hh sm hc R q => ?_⟩
  obtain ⟨k1, k2⟩ := conj_app hc
  refine r s F H σ hh sm k1 _ fun v F1 H1 g1 hh1 r1 => r2 s F1 H1 σ hh1 g1.fh k2 _ fun w F2 H2 g2 hh2 r3 => ?_
  obtain ⟨a1, vs, ev, sq, pr, z⟩ := hl (L.mono g2.ff r1)
  obtain ⟨b1, ws, ew, sq2, pr2, z2⟩ := hl1 r3
  exact ⟨a1, b1, vs, ws, by rw [ev, ew], g2.fh.seq sq, g2.fh.seq sq2, q _ F2 H2 ((g1.mono (msAt_l (m2 := m2))).trans (g2.mono (msAt_r (m1 := m1)))) hh2 (walks_zip sq pr z sq2 pr2)⟩
end

/-! ### for -/
section
variable {K : PySem.W.Frag} {S M α : Type}
inductive Head {K : PySem.W.Frag} {S M : Type} (init : S → M) : Ctx K S → Ctx K (S × M) → Prop
  | nil : Head init [] []
  | keep {sl : Slot K S} {Δ : Ctx K S} {Δl : Ctx K (S × M)} : Head init Δ Δl → Head init (sl :: Δ) (sl.comap Prod.fst :: Δl)
  | dead {sl : Slot K S} {Δ : Ctx K S} {Δl : Ctx K (S × M)} : Head init Δ Δl → Head init (sl :: Δ) (.dead :: Δl)
  | fz {τ : Ty K} {f : S → τ.α} {Δ : Ctx K S} {Δl : Ctx K (S × M)} (pr : M → τ.α) : (∀ s, f s = pr (init s)) → Head init Δ Δl → Head init (.fz τ f :: Δ) (.fz τ (fun t => pr t.2) :: Δl)
  | ow {ω : OTy K} {f : S → ω.τ.α} {Δ : Ctx K S} {Δl : Ctx K (S × M)} (pr : M → ω.τ.α) : (∀ s, f s = pr (init s)) → Head init Δ Δl → Head init (.ow ω f :: Δ) (.ow ω (fun t => pr t.2) :: Δl)
inductive Back {K : PySem.W.Frag} {S M α : Type} (step : (S × M) × α → M) : Ctx K ((S × M) × α) → Ctx K (S × M) → Prop
  | nil : Back step [] []
  | keep {sl : Slot K S} {Δe : Ctx K ((S × M) × α)} {Δl : Ctx K (S × M)} : Back step Δe Δl → Back step (Slot.comap Prod.fst (sl.comap (T := S × M) Prod.fst) :: Δe) (sl.comap Prod.fst :: Δl)
  | dead {sl : Slot K ((S × M) × α)} {Δe : Ctx K ((S × M) × α)} {Δl : Ctx K (S × M)} : Back step Δe Δl → Back step (sl :: Δe) (.dead :: Δl)
  | fz {τ : Ty K} {fe : (S × M) × α → τ.α} {pr : M → τ.α} {Δe : Ctx K ((S × M) × α)} {Δl : Ctx K (S × M)} : (∀ u, fe u = pr (step u)) → Back step Δe Δl → Back step (.fz τ fe :: Δe) (.fz τ (fun t => pr t.2) :: Δl)
  | ow {ω : OTy K} {fe : (S × M) × α → ω.τ.α} {pr : M → ω.τ.α} {Δe : Ctx K ((S × M) × α)} {Δl : Ctx K (S × M)} : (∀ u, fe u = pr (step u)) → Back step Δe Δl → Back step (.ow ω fe :: Δe) (.ow ω (fun t => pr t.2) :: Δl)
theorem Head.as {init : S → M} {Δ : Ctx K S} {Δl : Ctx K (S × M)} (h : Head init Δ Δl) (s : S) : AsC Δ s Δl (s, init s) := by
  induction h with
  | nil => exact .nil
  | @keep sl _ _ _ ih =>
    cases sl with
    | dead => exact .cons (.inl rfl) ih
    | fz τ f => exact .cons (.inr (.inl ⟨τ, f, _, rfl, rfl, rfl⟩)) ih
    | ow ω f => exact .cons (.inr (.inr ⟨ω, f, _, rfl, rfl, rfl⟩)) ih
  | dead _ ih => exact .cons (.inl rfl) ih
  | @fz τ f _ _ pr e _ ih => exact .cons (.inr (.inl ⟨τ, f, _, rfl, rfl, e s⟩)) ih
  | @ow ω f _ _ pr e _ ih => exact .cons (.inr (.inr ⟨ω, f, _, rfl, rfl, e s⟩)) ih
theorem Back.as {step : (S × M) × α → M} {Δe : Ctx K ((S × M) × α)} {Δl : Ctx K (S × M)} (h : Back step Δe Δl) (u : (S × M) × α) : AsC Δe u Δl (u.1.1, step u) := by
  induction h with
  | nil => exact .nil
  | @keep sl _ _ _ ih =>
    cases sl with
    | dead => exact .cons (.inl rfl) ih
    | fz τ f => exact .cons (.inr (.inl ⟨τ, _, _, rfl, rfl, rfl⟩)) ih
    | ow ω f => exact .cons (.inr (.inr ⟨ω, _, _, rfl, rfl, rfl⟩)) ih
  | dead _ ih => exact .cons (.inl rfl) ih
  | @fz τ fe pr _ _ e _ ih => exact .cons (.inr (.inl ⟨τ, _, _, rfl, rfl, e u⟩)) ih
  | @ow ω fe pr _ _ e _ ih => exact .cons (.inr (.inr ⟨ω, _, _, rfl, rfl, e u⟩)) ih
/-- what is asked of every turn -/
def loopC (c : M → α → Prop) (step : M → α → M) : List α → M → Prop
  | [], _ => True
  | x :: xs, m => c m x ∧ loopC c step xs (step m x)
def loopF (step : M → α → M) : List α → M → M
  | [], m => m
  | x :: xs, m => loopF step xs (step m x)
/-- a loop that may return -/
def loopR {R : Type} (r : M → α → Option R) (step : M → α → M) : List α → M → Option R
  | [], _ => none
  | x :: xs, m => match r m x with | some v => some v | none => loopR r step xs (step m x)
def loopCr {R : Type} (c : M → α → Prop) (r : M → α → Option R) (step : M → α → M) : List α → M → Prop
  | [], _ => True
  | x :: xs, m => c m x ∧ (r m x = none → loopCr c r step xs (step m x))
theorem comap_holds {S T : Type} {g : T → S} {Δ : Ctx K S} {t : T} {F H : Hp} {σ : L2.St} (hh : Holds Δ (g t) F H σ) : Holds (Δ.comap g) t F H σ where
  len := by rw [List.length_map]; exact hh.len
  at_ := fun i sl o e1 e2 => by
    rw [List.getElem?_map] at e1
    obtain ⟨sl', q1, q2⟩ := Option.map_eq_some_iff.mp e1
    have r := hh.at_ i sl' o q1 e2
    subst q2
    cases sl' <;> exact r
  sep := fun i j ω ω' f f' p n e1 e2 e3 => by
    have up : ∀ {i : Nat} {ω : OTy K} {f : T → ω.τ.α}, (Δ.comap g)[i]? = some (.ow ω f) → ∃ (f' : S → ω.τ.α), Δ[i]? = some (.ow ω f') := fun {i ω f} e => by
      rw [List.getElem?_map] at e
      obtain ⟨sl', q1, q2⟩ := Option.map_eq_some_iff.mp e
      cases sl' with
      | dead => cases q2
      | fz _ _ => cases q2
      | ow _ f' => cases q2; exact ⟨f', q1⟩
    obtain ⟨_, k1⟩ := up e1
    obtain ⟨_, k2⟩ := up e2
    exact hh.sep i j ω ω' _ _ p n k1 k2 e3
theorem comap_own {S T : Type} {g : T → S} {Δ : Ctx K S} {σ : L2.St} {a : Addr} : Own (Δ.comap g) σ a ↔ Own Δ σ a := by
  constructor
  · rintro ⟨i, ω, f, e1, e2⟩
    rw [List.getElem?_map] at e1
    obtain ⟨sl', q1, q2⟩ := Option.map_eq_some_iff.mp e1
    cases sl' with
    | dead => cases q2
    | fz _ _ => cases q2
    | ow _ f' => cases q2; exact ⟨i, _, f', q1, e2⟩
  · rintro ⟨i, ω, f, e1, e2⟩
    exact ⟨i, ω, fun t => f (g t), by rw [List.getElem?_map, e1]; rfl, e2⟩
/-- the same shape of contexts -/
theorem GrS.shape {A B C D : Type} {mus : List Nat} {Δ : Ctx K A} {Δ1 : Ctx K B} {Δ' : Ctx K C} {Δ1' : Ctx K D} {σ σ1 : L2.St} {F H F1 H1 : Hp} (g : GrS mus Δ σ Δ1 σ1 F H F1 H1) (h : ∀ a, Own Δ σ a ↔ Own Δ' σ a) (h1 : ∀ a, Own Δ1' σ1 a → Own Δ1 σ1 a) : GrS mus Δ' σ Δ1' σ1 F H F1 H1 where
  ff := g.ff
  fh := g.fh
  fresh := fun a o e => (g.fresh a o e).imp id fun z => z.imp id (h a).mp
  keep := fun a o e n => g.keep a o e fun z => n ((h a).mp z)
  dom := g.dom
  own := fun a z => (g.own a (h1 a z)).imp (h a).mp id
  mu := g.mu
theorem GrS.grow {A B : Type} {mus : List Nat} {Δ : Ctx K A} {Δ1 : Ctx K B} {σ σ1 : L2.St} {F H F1 H1 F2 H2 : Hp} (g : GrS mus Δ σ Δ1 σ1 F H F1 H1) (k : Gr No F1 H1 F2 H2) : GrS mus Δ σ Δ1 σ1 F H F2 H2 :=
  g.trans ⟨⟨k.ff, k.fh, fun a o e => (k.fresh a o e).imp id .inl, fun a o e _ => k.keep a o e id, k.dom⟩, fun a z => .inl z, fun _ _ => rfl⟩
end
section
variable {K : PySem.W.Frag} {X : Cx} {S M R : Type} {fm : Fm K R} {Δ Δ1 : Ctx K S} {Δl : Ctx K (S × M)} {body : List Stmt} {tg iter : Expr} {pos : Pos} {τ : Ty K} {Δb Δe : Ctx K ((S × M) × τ.α)} {mus ms is : List Nat} {c1 : List (S → Prop)} {cb : List ((S × M) × τ.α → Prop)} {wi : TI} {g : TG} {fx : S → List τ.α} {init : S → M} {step : (S × M) × τ.α → M}
theorem DS.for_ (hi : DI K X Δ tg iter τ ms c1 Δ1 fx wi) (hm : OwnAll Δ ms) (h0 : Head init Δ1 Δl) (hg : DG K X (Δl.comap Prod.fst) tg τ Prod.snd is Δb g) (his : ∀ j ∈ is, j ∉ mus) (hb : DN K X mus Δb body cb Δe) (hk : Back step Δe Δl)
    (hp : PassesOwn (model X.prog X.w) X.A X.env X.xe := by exact PassesOwn.never) (hc : X.calm = true := by rfl) (hs : ∀ x, foldedSetIterable iter X.env x = pure x := by intro _; rfl) :
    DS K X mus Δ (.For tg iter body [] pos) (c1 ++ [fun s => loopC (fun m x => Conj cb ((s, m), x)) (fun m x => step ((s, m), x)) (fx s) (init s)]) (Δl.comap fun s => (s, loopF (fun m x => step ((s, m), x)) (fx s) (init s))) := by
  obtain ⟨d1, p, r⟩ := hi
  obtain ⟨_, pg, rg⟩ := hg
  obtain ⟨tb, pb, rb⟩ := hb
  refine ⟨_, ps_for hp hc p pg pb hs, fun s F H σ hh sm hcs D q => ?_⟩
  obtain ⟨k1, k2, _⟩ := conj_app hcs
  refine r s F H σ hh sm k1 _ fun J F1 H1 g1 hh1 wk => ?_
  have gs1 : GrS mus Δ σ Δ1 σ F H F1 H1 := gs0 hm d1 hh g1
  have hl := (h0.as s).holds hh1
  have gl := gs1.as (h0.as s)
  refine ⟨fun i k σ' H' => ∃ m F', k = (fx s).length - i ∧ i ≤ (fx s).length ∧ loopF (fun m x => step ((s, m), x)) ((fx s).drop i) m = loopF (fun m x => step ((s, m), x)) (fx s) (init s) ∧ loopC (fun m x => Conj cb ((s, m), x)) (fun m x => step ((s, m), x)) ((fx s).drop i) m ∧
    Same F1 F' ∧ Holds Δl (s, m) F' H' σ' ∧ GrS mus Δ σ Δl σ' F H F' H', ⟨_, init s, F1, rfl, Nat.zero_le _, rfl, k2, Same.refl F1, hl, gl⟩, ?_⟩
  rintro i k σ' H' ⟨m, F', rfl, hi, ef, ec, sf, hh', g'⟩
  by_cases hlt : i < (fx s).length
  · refine .inr ?_
    have ex : (fx s)[i]? = some (fx s)[i] := List.getElem?_eq_getElem hlt
    have ed : (fx s).drop i = (fx s)[i] :: (fx s).drop (i + 1) := List.drop_eq_getElem_cons hlt
    rw [ed] at ef ec
    obtain ⟨w1, w2⟩ := wk.go i _ F' H' sf g'.fh ex
    refine ⟨w1, fun σ2 H2 => ∃ F2, Same F1 F2 ∧ Holds Δl (s, step ((s, m), (fx s)[i])) F2 H2 σ2 ∧ GrS mus Δ σ Δl σ2 F H F2 H2, fun σ2 H2 ⟨F2, y1, y2, y3⟩ => ⟨_, by omega, _, F2, rfl, hlt, ef, ec.2, y1, y2, y3⟩, fun v H2 hy => ?_⟩
    obtain ⟨F2, g2, rv⟩ := w2 v H2 hy
    have hh2 : Holds (Δl.comap Prod.fst) ((s, m), (fx s)[i]) F2 H2 σ' := comap_holds (hh'.grow g2)
    refine rg ((s, m), (fx s)[i]) F2 H2 σ' v hh2 g2.fh rv _ fun σ3 hh3 ow3 nx3 => ?_
    refine rb _ F2 H2 σ3 hh3 g2.fh ec.1 _ fun σ4 F4 H4 g4 hh4 => ?_
    refine ⟨F4, sf.trans (g2.ff.trans g4.ff), (hk.as ((s, m), (fx s)[i])).holds hh4, ?_⟩
    have gt : GrS mus Δl σ' Δb σ3 F2 H2 F2 H2 := ⟨⟨Same.refl F2, g2.fh, fun _ _ e => .inl e, fun _ _ e _ => e, fun _ e => e⟩, fun a z => .inl (comap_own.mp (ow3 a z)), fun k hk => nx3 k fun z => his k z hk⟩
    exact (((g'.grow g2).trans gt).trans g4).as (hk.as ((s, m), (fx s)[i]))
  · refine .inl ⟨wk.stop i F' H' sf g'.fh (by omega), ?_⟩
    have ed : (fx s).drop i = [] := List.drop_eq_nil_of_le (by omega)
    rw [ed] at ef
    have ef' : m = loopF (fun m x => step ((s, m), x)) (fx s) (init s) := ef
    rw [ef'] at hh'
    exact q σ' F' H' (g'.shape (fun _ => Iff.rfl) fun a z => comap_own.mp z) (comap_holds (g := fun s => (s, loopF (fun m x => step ((s, m), x)) (fx s) (init s))) hh')
theorem DSm.for_ {r : (S × M) × τ.α → Option R} (hi : DI K X Δ tg iter τ ms c1 Δ1 fx wi) (hm : OwnAll Δ ms) (h0 : Head init Δ1 Δl) (hg : DG K X (Δl.comap Prod.fst) tg τ Prod.snd is Δb g) (his : ∀ j ∈ is, j ∉ musOf 0 fm.ps) (hb : DM K X fm Δb body cb r Δe) (hk : Back step Δe Δl)
    (hp : PassesOwn (model X.prog X.w) X.A X.env X.xe := by exact PassesOwn.never) (hc : X.calm = true := by rfl) (hs : ∀ x, foldedSetIterable iter X.env x = pure x := by intro _; rfl) :
    DSm K X fm Δ (.For tg iter body [] pos) (c1 ++ [fun s => loopCr (fun m x => Conj cb ((s, m), x)) (fun m x => r ((s, m), x)) (fun m x => step ((s, m), x)) (fx s) (init s)]) (fun s => loopR (fun m x => r ((s, m), x)) (fun m x => step ((s, m), x)) (fx s) (init s)) (Δl.comap fun s => (s, loopF (fun m x => step ((s, m), x)) (fx s) (init s))) := by
  obtain ⟨d1, p, ri⟩ := hi
  obtain ⟨_, pg, rg⟩ := hg
  obtain ⟨tb, pb, rb⟩ := hb
  refine ⟨_, ps_for hp hc p pg pb hs, fun s F H σ hh sm hcs D q1 q2 => ?_⟩
  obtain ⟨k1, k2, _⟩ := conj_app hcs
  refine ri s F H σ hh sm k1 _ fun J F1 H1 g1 hh1 wk => ?_
  have gs1 : GrS (musOf 0 fm.ps) Δ σ Δ1 σ F H F1 H1 := gs0 hm d1 hh g1
  have hl := (h0.as s).holds hh1
  have gl := gs1.as (h0.as s)
  refine ⟨fun i k σ' H' => ∃ m F', k = (fx s).length - i ∧ i ≤ (fx s).length ∧ loopF (fun m x => step ((s, m), x)) ((fx s).drop i) m = loopF (fun m x => step ((s, m), x)) (fx s) (init s) ∧
    loopR (fun m x => r ((s, m), x)) (fun m x => step ((s, m), x)) ((fx s).drop i) m = loopR (fun m x => r ((s, m), x)) (fun m x => step ((s, m), x)) (fx s) (init s) ∧
    loopCr (fun m x => Conj cb ((s, m), x)) (fun m x => r ((s, m), x)) (fun m x => step ((s, m), x)) ((fx s).drop i) m ∧
    Same F1 F' ∧ Holds Δl (s, m) F' H' σ' ∧ GrS (musOf 0 fm.ps) Δ σ Δl σ' F H F' H', ⟨_, init s, F1, rfl, Nat.zero_le _, rfl, rfl, k2, Same.refl F1, hl, gl⟩, ?_⟩
  rintro i k σ' H' ⟨m, F', rfl, hi, ef, er, ec, sf, hh', g'⟩
  by_cases hlt : i < (fx s).length
  · refine .inr ?_
    have ex : (fx s)[i]? = some (fx s)[i] := List.getElem?_eq_getElem hlt
    have ed : (fx s).drop i = (fx s)[i] :: (fx s).drop (i + 1) := List.drop_eq_getElem_cons hlt
    rw [ed] at ef er ec
    obtain ⟨w1, w2⟩ := wk.go i _ F' H' sf g'.fh ex
    refine ⟨w1, fun σ2 H2 => r ((s, m), (fx s)[i]) = none ∧ ∃ F2, Same F1 F2 ∧ Holds Δl (s, step ((s, m), (fx s)[i])) F2 H2 σ2 ∧ GrS (musOf 0 fm.ps) Δ σ Δl σ2 F H F2 H2, fun σ2 H2 ⟨y0, F2, y1, y2, y3⟩ => ⟨_, by omega, _, F2, rfl, hlt, ef, by rw [← er]; simp only [loopR, y0], ec.2 y0, y1, y2, y3⟩, fun v H2 hy => ?_⟩
    obtain ⟨F2, g2, rv⟩ := w2 v H2 hy
    have hh2 : Holds (Δl.comap Prod.fst) ((s, m), (fx s)[i]) F2 H2 σ' := comap_holds (hh'.grow g2)
    refine rg ((s, m), (fx s)[i]) F2 H2 σ' v hh2 g2.fh rv _ fun σ3 hh3 ow3 nx3 => ?_
    have gt : GrS (musOf 0 fm.ps) Δl σ' Δb σ3 F2 H2 F2 H2 := ⟨⟨Same.refl F2, g2.fh, fun _ _ e => .inl e, fun _ _ e _ => e, fun _ e => e⟩, fun a z => .inl (comap_own.mp (ow3 a z)), fun k hk => nx3 k fun z => his k z hk⟩
    have gA : GrS (musOf 0 fm.ps) Δ σ Δb σ3 F H F2 H2 := (g'.grow g2).trans gt
    refine rb _ F2 H2 σ3 hh3 g2.fh ec.1 _ (fun y ey => ?_) fun ey σ4 F4 H4 g4 hh4 => ?_
    · have e1 : loopR (fun m x => r ((s, m), x)) (fun m x => step ((s, m), x)) (fx s) (init s) = some y := by rw [← er]; simp only [loopR, ey]
      exact fun v5 F5 H5 g5 ro mo => q1 y e1 v5 F5 H5 (GrR.after gA g5) (ro.dom fun _ => Fresh.back gA) (mo.congr fun j h => gA.mu j h)
    · exact ⟨ey, F4, sf.trans (g2.ff.trans g4.ff), (hk.as ((s, m), (fx s)[i])).holds hh4, (gA.trans g4).as (hk.as ((s, m), (fx s)[i]))⟩
  · refine .inl ⟨wk.stop i F' H' sf g'.fh (by omega), ?_⟩
    have ed : (fx s).drop i = [] := List.drop_eq_nil_of_le (by omega)
    rw [ed] at ef er
    have ef' : m = loopF (fun m x => step ((s, m), x)) (fx s) (init s) := ef
    rw [ef'] at hh'
    exact q2 er.symm σ' F' H' (g'.shape (fun _ => Iff.rfl) fun a z => comap_own.mp z) (comap_holds (g := fun s => (s, loopF (fun m x => step ((s, m), x)) (fx s) (init s))) hh')
end
end Dx

/-! Dx, part H: comprehensions, two stores at once, built-ins. -/
namespace Dx
open PySem PySem.Spec PyProof.Rows L2
section
variable {K : PySem.W.Frag} {S : Type}
/-- the slots vs forgotten -/
def killL (Δ : Ctx K S) : List Nat → Ctx K S
  | [] => Δ
  | v :: vs => (killL Δ vs).set v .dead
theorem kill_get {Δ : Ctx K S} {i : Nat} {sl : Slot K S} : ∀ {vs : List Nat}, (killL Δ vs)[i]? = some sl → sl = .dead ∨ (i ∉ vs ∧ Δ[i]? = some sl)
  | [], h => .inr ⟨List.not_mem_nil, h⟩
  | v :: vs, h => by
    rcases get_set1 h with ⟨_, e, _⟩ | ⟨n, h⟩
    · exact .inl e
    · rcases kill_get h with e | ⟨n2, e⟩
      · exact .inl e
      · exact .inr ⟨fun z => (List.mem_cons.mp z).elim (fun q => n q.symm) n2, e⟩
theorem kill_len {Δ : Ctx K S} : ∀ {vs : List Nat}, (killL Δ vs).length = Δ.length
  | [] => rfl
  | v :: vs => by unfold killL; rw [List.length_set, kill_len]
theorem kill_holds {Δ : Ctx K S} {s : S} {F H : Hp} {σ : L2.St} {vs : List Nat} (hh : Holds Δ s F H σ) : Holds (killL Δ vs) s F H (wipe σ vs) where
  len := by rw [wipe_length, kill_len]; exact hh.len
  at_ := fun i sl o e1 e2 => by
    rcases kill_get e1 with z | ⟨n, e⟩
    · subst z; trivial
    · rw [wipe_out n] at e2
      exact hh.at_ i sl o e e2
  sep := fun i j ω ω' f f' p n e1 e2 e3 => by
    rcases kill_get e1 with z | ⟨n1, k1⟩
    · cases z
    · rcases kill_get e2 with z | ⟨n2, k2⟩
      · cases z
      · rw [wipe_out n1] at e3
        rw [wipe_out n2]
        exact hh.sep i j ω ω' f f' p n k1 k2 e3
/-- a clause's tests -/
def DTs' {S : Type} (K : PySem.W.Frag) (X : Cx) (Δ : Ctx K S) (ifs : List Expr) (cs : List (S → Prop)) (f : S → Bool) (t : TT) : Prop :=
  PTs X ifs t ∧ ∀ s F H σ, Holds Δ s F H σ → Same F H → Conj cs s → ∀ Q : Bool → Hp → Prop, (∀ F' H', Gr No F H F' H' → Q (f s) H') → t σ H Q
theorem DTs'.nil {X : Cx} {Δ : Ctx K S} : DTs' K X Δ [] [] (fun _ => true) tYes := ⟨pts_nil, fun s F H σ hh sm _ Q q => q F H (Gr.refl sm)⟩
theorem DTs'.one {X : Cx} {Δ : Ctx K S} {c : Expr} {cs : List (S → Prop)} {f : S → Bool} {t : TT} (h : DT K X Δ c [] cs Δ f t) : DTs' K X Δ [c] cs f t :=
  ⟨pts_one h.2.1, fun s F H σ hh sm hc Q q => h.2.2 s F H σ hh sm hc Q fun F' H' g _ => q F' H' (by rw [msAt_nil] at g; exact g)⟩
end
section
variable {K : PySem.W.Frag} {X : Cx} {S R : Type} {Δ Δ1 Δ2 : Ctx K S} {st : Stmt} {e a b c tg iter elt : Expr} {es ifs : List Expr} {pos p' apos : Pos} {τ τe τ1 τ2 L : Ty K} {ω ω1 ω2 : OTy K} {mus ms m1 m2 is vs : List Nat} {c1 c2 c3 cs : List (S → Prop)} {ta tb te : TE} {tt tx : TT} {tl : TA} {i j : Nat} {x y : Str}
/-- what a comprehension without effects is worth -/
def lcV {α β : Type} (xs : List α) (t : α → Bool) (f : α → β) : List β := (xs.filter t).map f
/-- the reading of a comprehension -/
theorem lc_sem {Δb : Ctx K (S × τ.α)} {fx : S → List τ.α} {wi : TI} {g : TG} {ct ce : List (S × τ.α → Prop)} {ft : S × τ.α → Bool} {fe : S × τ.α → τe.α}
    (ri : ∀ s F H σ, Holds Δ s F H σ → Same F H → Conj c1 s → ∀ R : It → Hp → Prop, (∀ J F' H', Gr (MsAt ms σ) F H F' H' → Holds Δ1 s F' H' σ → Walks K J F' τ (fx s) → R J H') → wi σ H R)
    (lg : Δb.length = (Ctx.comap (T := S × τ.α) Prod.fst (killL Δ1 vs)).length) (rg : ∀ (s : S × τ.α) F H σ v, Holds (Ctx.comap (T := S × τ.α) Prod.fst (killL Δ1 vs)) s F H σ → Same F H → τ.rep F v s.2 → ∀ Q : L2.St → Hp → Prop, (∀ σ1, Holds Δb s F H σ1 → (∀ a, Own Δb σ1 a → Own (Ctx.comap (T := S × τ.α) Prod.fst (killL Δ1 vs)) σ a) → (∀ k, k ∉ is → σ1[k]? = σ[k]?) → Q σ1 H) → g v σ H Q)
    (rt : ∀ s F H σ, Holds Δb s F H σ → Same F H → Conj ct s → ∀ Q : Bool → Hp → Prop, (∀ F' H', Gr No F H F' H' → Q (ft s) H') → tt σ H Q)
    (re : ∀ s F H σ, Holds Δb s F H σ → Same F H → Conj ce s → ∀ Q : VK, (∀ v F' H', Gr (MsAt [] σ) F H F' H' → Holds Δb s F' H' σ → τe.rep F' v (fe s) → Q v H') → te σ H Q)
    (his : ∀ j ∈ is, j ∈ vs) :
    ∀ s F H σ, Holds Δ s F H σ → Same F H → Conj (c1 ++ [fun s => ∀ x ∈ fx s, Conj ct (s, x) ∧ (ft (s, x) = true → Conj ce (s, x))]) s → ∀ Q : VK, (∀ p u F' H', Gr (MsAt ms σ) F H F' H' → Holds Δ1 s F' H' σ → H p = none → F' p = none → H' p = some u → (oList τe).own F' u (lcV (fx s) (fun x => ft (s, x)) (fun x => fe (s, x))) → Q (.ref p) H') → tLc wi g tt te vs σ H Q := by
  intro s F H σ hh sm hcs Q q
  obtain ⟨k1, k2, _⟩ := conj_app hcs
  refine ri s F H σ hh sm k1 _ fun J F1 H1 g1 hh1 wk D hD => ?_
  have nD : F1 D = none := g1.fh.free hD
  refine ⟨fun i k H' => ∃ F' acc, k = (fx s).length - i ∧ i ≤ (fx s).length ∧ Gr (fun a => a = D) F1 (upd H1 D (.lst [])) F' H' ∧ F' D = none ∧ H' D = some (.lst acc) ∧ Paired (τe.rep F') acc (lcV ((fx s).take i) (fun x => ft (s, x)) (fun x => fe (s, x))) ∧ Same F1 F',
    ⟨_, F1, [], rfl, Nat.zero_le _, Gr.refl (fun a o z => by rw [upd_ne (ne_of_none z nD)]; exact g1.fh a o z), nD, upd_same, by rw [List.take_zero]; exact .nil, Same.refl F1⟩, ?_⟩
  rintro i k H' ⟨F', acc, rfl, hi, g', n', e', pr, sf⟩
  -- the frame's own objects stand as they stood
  have back : Gr No F1 H1 F' H' := gr_mk (fun a o z => g'.keep a o (by rw [upd_ne (ne_of_none z hD)]; exact z) fun w => by subst w; rw [hD] at z; cases z) g'.ff g'.fh fun a o z => by
    rcases g'.fresh a o z with w | w
    · exact .inl w
    · by_cases y : a = D
      · subst y; exact .inr hD
      · rw [upd_ne y] at w; exact .inr w
  have lt : ∀ n, (lcV ((fx s).take n) (fun x => ft (s, x)) (fun x => fe (s, x))).length ≤ min n (fx s).length := fun n => by
    unfold lcV
    rw [List.length_map]
    refine Nat.le_trans (List.length_filter_le _ _) ?_
    rw [List.length_take]
    exact Nat.le_refl _
  by_cases hlt : i < (fx s).length
  · refine .inr ?_
    have ex : (fx s)[i]? = some (fx s)[i] := List.getElem?_eq_getElem hlt
    obtain ⟨w1, w2⟩ := wk.go i _ F' H' sf g'.fh ex
    have kx := k2 _ (List.getElem_mem hlt)
    refine ⟨w1, fun H2 => ∃ F2 acc2, Gr (fun a => a = D) F1 (upd H1 D (.lst [])) F2 H2 ∧ F2 D = none ∧ H2 D = some (.lst acc2) ∧ Paired (τe.rep F2) acc2 (lcV ((fx s).take (i + 1)) (fun x => ft (s, x)) (fun x => fe (s, x))) ∧ Same F1 F2, fun H2 ⟨F2, acc2, y1, y2, y3, y4, y5⟩ => ⟨_, by omega, F2, acc2, rfl, hlt, y1, y2, y3, y4, y5⟩, fun v H2 hy => ?_⟩
    obtain ⟨F2, g2, rv⟩ := w2 v H2 hy
    have hhk : Holds (Ctx.comap (T := S × τ.α) Prod.fst (killL Δ1 vs)) (s, (fx s)[i]) F2 H2 (wipe σ vs) := comap_holds (kill_holds ((hh1.grow back).grow g2))
    refine rg (s, (fx s)[i]) F2 H2 (wipe σ vs) v hhk g2.fh rv _ fun σ3 hh3 ow3 nx3 => ⟨?_, ?_⟩
    · -- only names of the block were stored
      apply List.ext_getElem?
      intro j
      by_cases hj : j ∈ vs
      · have : ∀ {σ : L2.St} {ws : List Nat}, j ∈ ws → (wipe σ ws)[j]? = if j < σ.length then some none else none := by
          intro σ ws
          induction ws with
          | nil => intro h; cases h
          | cons w ws ih =>
            intro h
            unfold wipe
            by_cases hw : w = j
            · subst hw
              rw [List.getElem?_set, if_pos rfl, wipe_length]
            · rw [List.getElem?_set_ne hw]
              exact ih ((List.mem_cons.mp h).resolve_left fun z => hw z.symm)
        rw [this hj, this hj]
        have l3 : σ3.length = (wipe σ vs).length := by rw [hh3.len, hhk.len]; exact lg
        rw [l3, wipe_length]
      · rw [wipe_out hj, wipe_out hj, nx3 j fun z => hj (his j z), wipe_out hj]
    · refine rt _ F2 H2 σ3 hh3 g2.fh kx.1 _ fun F3 H3 g3 => ?_
      have ek : (fx s).take (i + 1) = (fx s).take i ++ [(fx s)[i]] := by rw [List.take_add_one, ex]; rfl
      have gD : Gr (fun a => a = D) F1 (upd H1 D (.lst [])) F3 H3 := g'.trans ((g2.trans g3).of0)
      have stay : ∀ {Fa Ha Fb Hb : Hp}, Gr No Fa Ha Fb Hb → Fa D = none → Ha D = some (.lst acc) → Fb D = none ∧ Hb D = some (.lst acc) := fun {Fa Ha Fb Hb} g n h => by
        refine ⟨?_, g.same _ _ h⟩
        cases z : Fb D with
        | none => rfl
        | some o =>
          rcases g.fresh D o z with w | w
          · rw [n] at w; cases w
          · rw [h] at w; cases w
      obtain ⟨n3, e3⟩ := stay (g2.trans g3) n' e'
      cases et : ft (s, (fx s)[i]) with
      | false =>
        show ∃ F2 acc2, _
        refine ⟨F3, acc, gD, n3, e3, ?_, sf.trans (g2.trans g3).ff⟩
        rw [ek]
        unfold lcV
        rw [List.filter_append, List.map_append, show List.filter (fun x => ft (s, x)) [(fx s)[i]] = [] by simp [et]]
        simp only [List.map_nil, List.append_nil]
        exact paired_mono (fun a b r => τe.mono (g2.trans g3).ff r) pr
      | true =>
        show te σ3 H3 _
        refine re _ F3 H3 σ3 (hh3.grow g3) g3.fh (kx.2 et) _ fun w F4 H4 g4 hh4 r4 => ?_
        rw [msAt_nil] at g4
        obtain ⟨n4, e4⟩ := stay g4 n3 e3
        have ll : acc.length < sizeLine := by
          rw [pr.length]
          have := lt i
          have := wk.len
          omega
        refine ⟨acc, e4, ll, F4, acc ++ [w], ?_, n4, upd_same, ?_, sf.trans ((g2.trans g3).trans g4).ff⟩
        · have g5 := gD.trans (g4.of0 (B := fun a => a = D))
          refine g5.trans ⟨Same.refl F4, fun a o z => by rw [upd_ne (ne_of_none z n4)]; exact g4.fh a o z, fun a o z => .inl z, fun a o z nz => by rw [upd_ne nz]; exact z, fun a z => ?_⟩
          by_cases y : a = D
          · subst y; rw [upd_same] at z; cases z
          · rw [upd_ne y] at z; exact z
        · rw [ek]
          unfold lcV
          rw [List.filter_append, List.map_append, show List.filter (fun x => ft (s, x)) [(fx s)[i]] = [(fx s)[i]] by simp [et]]
          exact paired_app (paired_mono (fun a b r => τe.mono ((g2.trans g3).trans g4).ff r) pr) (.cons r4 .nil)
  · refine .inl ⟨wk.stop i F' H' sf g'.fh (by omega), ?_⟩
    have ed : (fx s).take i = fx s := List.take_of_length_le (by omega)
    rw [ed] at pr
    refine q D (.lst acc) F' H' (g1.trans back.of0) (hh1.grow back) (g1.dom D hD) n' e' ⟨acc, rfl, pr, ?_⟩
    have := lt (fx s).length
    rw [List.take_length] at this
    have := wk.len
    omega

/-- [elt for tg in iter if ..] without effects -/
theorem DO.lc {scope : Scope} {own : List (Str × Nat)} {Δb : Ctx K (S × τ.α)} {fx : S → List τ.α} {wi : TI} {g : TG} {ct ce : List (S × τ.α → Prop)} {ft : S × τ.α → Bool} {fe : S × τ.α → τe.α} (hN : X.N.Nodup) (hi : DI K X Δ tg iter τ ms c1 Δ1 fx wi) (ok : BlkOk X.N X.env.scope scope own)
    (hg : ∀ (s : Shared) (H : Hp) (C : Addr) (cl : List (Str × Addr)) (fp : List Addr), DG K (X.blk s H scope (compEnvC scope cl C X.env) fp) (Ctx.comap (T := S × τ.α) Prod.fst (killL Δ1 (own.map (·.2)))) tg τ Prod.snd is Δb g)
    (ht : ∀ (s : Shared) (H : Hp) (C : Addr) (cl : List (Str × Addr)) (fp : List Addr), DTs' K (X.blk s H scope (compEnvC scope cl C X.env) fp) Δb ifs ct ft tt)
    (he : ∀ (s : Shared) (H : Hp) (C : Addr) (cl : List (Str × Addr)) (fp : List Addr), DX K (X.blk s H scope (compEnvC scope cl C X.env) fp) Δb elt τe [] ce Δb fe te) (his : ∀ j ∈ is, j ∈ own.map (·.2)) (hc : X.calm = true := by rfl) (hs : ∀ x, foldedSetIterable iter X.env x = pure x := by intro _; rfl) :
    DO K X Δ (.ListComp elt [⟨tg, iter, ifs, 0⟩] scope pos) (oList τe) ms (c1 ++ [fun s => ∀ x ∈ fx s, Conj ct (s, x) ∧ (ft (s, x) = true → Conj ce (s, x))]) Δ1 (fun s => lcV (fx s) (fun x => ft (s, x)) (fun x => fe (s, x))) (tLc wi g tt te (own.map (·.2))) :=
  ⟨hi.1, pe_lc hc hN hi.2.1 ok (fun s H C cl fp => (hg s H C cl fp).2.1) (fun s H C cl fp => (ht s H C cl fp).1) (fun s H C cl fp => (he s H C cl fp).2.1) hs, by
    have s0 : Shared := {}
    exact lc_sem (is := is) hi.2.2 (hg s0 (fun _ => none) 0 [] []).1 (hg s0 (fun _ => none) 0 [] []).2.2 (ht s0 (fun _ => none) 0 [] []).2 (he s0 (fun _ => none) 0 [] []).2.2 his⟩
/-- x = [..]: the statement of its own -/
theorem DS.setG {h : S → ω.τ.α} (he : DO K X Δ e ω ms c1 Δ1 h ta) (hps : PS X st (tAsg ta (gName i))) (hm : OwnAll Δ ms) (hu : i ∉ mus) : DS K X mus Δ st c1 (Δ1.set i (.ow ω h)) := by
  obtain ⟨d1, p, r⟩ := he
  refine ⟨_, hps, fun s F H σ hh sm hc D q => r s F H σ hh sm hc _ fun a u F1 H1 g1 hh1 n1 n2 e1 o1 => ?_⟩
  have gs : GrS mus Δ σ Δ1 σ F H F1 H1 := gs0 hm d1 hh g1
  refine q _ F1 H1 (gs.set hu hh1.len.symm fun ω f p _ e => by cases e; exact n1) (hh1.setO n2 e1 o1 fun z => ?_)
  obtain ⟨j, ω', f', e2, e3⟩ := z
  exact (d1.was hh e2 e3).2 n1
/-! #### an own list is lent to an expression that makes nothing of it -/
/-- all the slots ms hold what reads no list -/
def LfAll (Δ : Ctx K S) : List Nat → Prop
  | [] => True
  | i :: is => (∃ (ω : OTy K) (f : S → ω.τ.α), Δ[i]? = some (.ow ω f) ∧ LFo ω) ∧ LfAll Δ is
theorem LfAll.all : ∀ {ms : List Nat}, LfAll Δ ms → ∀ i ∈ ms, ∃ (ω : OTy K) (f : S → ω.τ.α), Δ[i]? = some (.ow ω f) ∧ LFo ω
  | [], _, _, h => nomatch h
  | j :: ms, h, i, m => by
    rcases List.mem_cons.mp m with e | e
    · subst e; exact h.1
    · exact LfAll.all h.2 i e
/-- the heap's told part without the lent object; the slots behind -/
theorem unlend {s : S} {F H F1 H1 : Hp} {σ : L2.St} {a : Addr} {u : HO} {f : S → ω.τ.α} (hh : Holds Δ s F H σ) (h : Δ[i]? = some (.ow ω f)) (e1 : σ[i]? = some (some (.ref a))) (e2 : F a = none) (e3 : H a = some u) (o : ω.own F u (f s)) (him : i ∉ ms) (hm : OwnAll Δ ms) (d : Diff ms (Δ.set i (.fz ω.τ f)) Δ1) (lf : LfAll Δ1 ms)
    (g1 : Gr (MsAt ms σ) (upd F a u) H F1 H1) (hh1 : Holds Δ1 s F1 H1 σ) : Gr (MsAt ms σ) F H (fun b => if b = a then none else F1 b) H1 ∧ Holds (Δ1.set i (.ow ω f)) s (fun b => if b = a then none else F1 b) H1 σ ∧ Same (fun b => if b = a then none else F1 b) F1 ∧ ∀ b xs, F1 b = some (.tup xs) → (fun b => if b = a then none else F1 b) b = some (.tup xs) := by
  have fu : F1 a = some u := g1.ff _ _ upd_same
  have hu : H1 a = some u := g1.fh _ _ fu
  have no : ∀ xs, u ≠ .tup xs := ω.obj o
  have s2 : Same (fun b => if b = a then none else F1 b) F1 := fun b o z => by
    by_cases w : b = a
    · simp only [if_pos w] at z; cases z
    · simp only [if_neg w] at z; exact z
  have tt : ∀ b xs, F1 b = some (.tup xs) → (fun b => if b = a then none else F1 b) b = some (.tup xs) := fun b xs z => by
    have w : b ≠ a := fun w => by subst w; rw [fu] at z; exact no xs (Option.some.inj z)
    simp only [if_neg w]
    exact z
  have ff : Same F (fun b => if b = a then none else F1 b) := fun b o z => by
    have w : b ≠ a := fun w => by subst w; rw [e2] at z; cases z
    simp only [if_neg w]
    exact g1.ff _ _ (by rw [upd_ne w]; exact z)
  refine ⟨⟨ff, s2.trans g1.fh, fun b o z => ?_, g1.keep, g1.dom⟩, ⟨by rw [List.length_set]; exact hh1.len, fun j sl o' k1 k2 => ?_, fun j l ω1 ω2 f1 f2 q n k1 k2 k3 => ?_⟩, s2, tt⟩
  · by_cases w : b = a
    · simp only [if_pos w] at z; cases z
    · simp only [if_neg w] at z
      rcases g1.fresh b o z with y | y
      · rw [upd_ne w] at y; exact .inl y
      · exact .inr y
  · rcases get_set1 k1 with ⟨rfl, rfl, _⟩ | ⟨n, k1⟩
    · rw [e1] at k2; cases k2
      exact ⟨a, u, rfl, by simp, hu, ω.mono ff o⟩
    · by_cases hj : j ∈ ms
      · obtain ⟨ω', f', k3, lo⟩ := lf.all j hj
        rw [k1] at k3; cases k3
        obtain ⟨p, u', r1, r2, r3, r4⟩ := hh1.at_ j _ o' k1 k2
        refine ⟨p, u', r1, ?_, r3, lo F1 _ u' _ tt r4⟩
        cases y : (fun b => if b = a then none else F1 b) p with
        | none => rfl
        | some o => rw [s2 _ _ y] at r2; cases r2
      · have k4 : Δ[j]? = some sl := by
          have := d.out j hj
          rw [List.getElem?_set_ne n] at this
          rw [← this]; exact k1
        have r := hh.at_ j sl o' k4 k2
        cases sl with
        | dead => trivial
        | fz τ g => obtain ⟨v, r1, r2⟩ := r; exact ⟨v, r1, τ.mono ff r2⟩
        | ow ω2 g =>
          obtain ⟨p, u', r1, r2, r3, r4⟩ := r
          obtain ⟨p', u'', t1, t2, t3, t4⟩ := hh1.at_ j _ o' k1 k2
          rw [r1] at t1; cases t1
          have nb : ¬ MsAt ms σ p := fun ⟨l, hl, e⟩ => by
            obtain ⟨ω', f', k5⟩ := hm.all l hl
            exact hh.sep j l ω2 ω' g f' p (fun z => hj (z ▸ hl)) k4 k5 (by rw [k2, r1]) e
          refine ⟨p, u', r1, ?_, g1.keep _ _ r3 nb, ω2.mono ff r4⟩
          cases y : (fun b => if b = a then none else F1 b) p with
          | none => rfl
          | some o => rw [s2 _ _ y] at t2; cases t2
  · have up : ∀ {j : Nat} {ω1 : OTy K} {f1 : S → ω1.τ.α}, (Δ1.set i (.ow ω f))[j]? = some (.ow ω1 f1) → ∃ (ω' : OTy K) (f' : S → ω'.τ.α), Δ[j]? = some (.ow ω' f') := fun {j ω1 f1} k => by
      rcases get_set1 k with ⟨rfl, _, _⟩ | ⟨n, k⟩
      · exact ⟨_, _, h⟩
      · obtain ⟨ω', f', k'⟩ := d.own j _ _ k
        rcases get_set1 k' with ⟨z, _, _⟩ | ⟨_, k'⟩
        · exact absurd z n
        · exact ⟨_, _, k'⟩
    obtain ⟨_, _, w1⟩ := up k1
    obtain ⟨_, _, w2⟩ := up k2
    exact hh.sep j l _ _ _ _ q n w1 w2 k3
theorem diff_lend {f : S → ω.τ.α} (h : Δ[i]? = some (.ow ω f)) (him : i ∉ ms) (d : Diff ms (Δ.set i (.fz ω.τ f)) Δ1) : Diff ms Δ (Δ1.set i (.ow ω f)) := by
  refine ⟨by rw [List.length_set, d.len, List.length_set], fun k hk => ?_, fun k ω1 f1 e => ?_⟩
  · by_cases z : i = k
    · subst z
      rw [List.getElem?_set_self (by rw [d.len, List.length_set]; exact (List.getElem?_eq_some_iff.mp h).1), h]
    · rw [List.getElem?_set_ne z, d.out k hk, List.getElem?_set_ne z]
  · rcases get_set1 e with ⟨rfl, _, _⟩ | ⟨n, e⟩
    · exact ⟨_, _, h⟩
    · obtain ⟨ω', f', k'⟩ := d.own k _ _ e
      rcases get_set1 k' with ⟨z, _, _⟩ | ⟨_, k'⟩
      · exact absurd z n
      · exact ⟨_, _, k'⟩
theorem DX.borrowE (i : Nat) {f : S → ω.τ.α} {g : S → τ.α} (h : Δ[i]? = some (.ow ω f)) (he : DX K X (Δ.set i (.fz ω.τ f)) e τ ms c1 Δ1 g ta) (lf : LF τ) (him : i ∉ ms) (hm : OwnAll Δ ms) (lm : LfAll Δ1 ms) : DX K X Δ e τ ms c1 (Δ1.set i (.ow ω f)) g ta := by
  obtain ⟨d, p, r⟩ := he
  refine ⟨diff_lend h him d, p, fun s F H σ hh sm hc Q q => ?_⟩
  obtain ⟨a, u, e1, e2, e3, o⟩ := own_at hh h
  refine r s _ H σ (hh.freeze h e1 e3 e2) (grs_freeze (mus := []) hh sm h e1 e3 e2).fh hc Q fun v F1 H1 g1 hh1 r1 => ?_
  obtain ⟨k1, k2, k3, k4⟩ := unlend hh h e1 e2 e3 o him hm d lm g1 hh1
  exact q v _ H1 k1 k2 (lf F1 _ v _ k4 r1)
theorem DO.borrowE (i : Nat) {f : S → ω.τ.α} {g : S → ω1.τ.α} (h : Δ[i]? = some (.ow ω f)) (he : DO K X (Δ.set i (.fz ω.τ f)) e ω1 ms c1 Δ1 g ta) (lf : LFo ω1) (him : i ∉ ms) (hm : OwnAll Δ ms) (lm : LfAll Δ1 ms) : DO K X Δ e ω1 ms c1 (Δ1.set i (.ow ω f)) g ta := by
  obtain ⟨d, p, r⟩ := he
  refine ⟨diff_lend h him d, p, fun s F H σ hh sm hc Q q => ?_⟩
  obtain ⟨a, u, e1, e2, e3, o⟩ := own_at hh h
  refine r s _ H σ (hh.freeze h e1 e3 e2) (grs_freeze (mus := []) hh sm h e1 e3 e2).fh hc Q fun p1 u1 F1 H1 g1 hh1 n1 n2 n3 o1 => ?_
  obtain ⟨k1, k2, k3, k4⟩ := unlend hh h e1 e2 e3 o him hm d lm g1 hh1
  refine q p1 u1 _ H1 k1 k2 n1 ?_ n3 (lf F1 _ _ _ k4 o1)
  show (if p1 = a then none else F1 p1) = none
  rw [n2]
  exact ite_self _
theorem DT.borrowE (i : Nat) {f : S → ω.τ.α} {g : S → Bool} (h : Δ[i]? = some (.ow ω f)) (he : DT K X (Δ.set i (.fz ω.τ f)) e ms c1 Δ1 g tx) (him : i ∉ ms) (hm : OwnAll Δ ms) (lm : LfAll Δ1 ms) : DT K X Δ e ms c1 (Δ1.set i (.ow ω f)) g tx := by
  obtain ⟨d, p, r⟩ := he
  refine ⟨diff_lend h him d, p, fun s F H σ hh sm hc Q q => ?_⟩
  obtain ⟨a, u, e1, e2, e3, o⟩ := own_at hh h
  refine r s _ H σ (hh.freeze h e1 e3 e2) (grs_freeze (mus := []) hh sm h e1 e3 e2).fh hc Q fun F1 H1 g1 hh1 => ?_
  obtain ⟨k1, k2, k3, k4⟩ := unlend hh h e1 e2 e3 o him hm d lm g1 hh1
  exact q _ H1 k1 k2

/-! #### built-ins -/
theorem DX.call1 {id : String} {r : List V → Hp → VK → Prop} {px : Pos} {f : S → τ.α} {cc : List (τ.α → Prop)} {g : τ.α → τ1.α} (hcr : CallR X (.builtin id) r) (hr : ∀ v x F H, Same F H → τ.rep F v x → ConjC (cc.map fun c y (_ : Unit) => c y) x () → ∀ Q : VK, (∀ z F' H', Gr No F H F' H' → τ1.rep F' z (g x) → Q z H') → r [v] H Q) (hm : X.mg x = none) (hv : bootBuiltins x = some (.builtin id)) (he : DX K X Δ e τ ms c1 Δ1 f ta)
    (hg : Gl X x := by rfl) (hn : x ≠ "__name__" := by decide) (hdb : (x == ("__debug__" : Str)) = false := by decide) (hs : starEach [e] X.env = (false, eval e X.env) :: starEach [] X.env := by rfl) (hpl : (backTo pos (starEach [] X.env)).any (·.1) = false := by rfl) :
    DX K X Δ (.Call (.Name x px) [e] [] pos) τ1 ms (c1 ++ cc.map fun c s => c (f s)) Δ1 (fun s => g (f s)) (tCB r (tCons ta tNil)) := by
  obtain ⟨d1, p, q1⟩ := he
  refine ⟨d1, pe_callB hcr hg hm hv (pa_cons p pa_nil hs) hn hdb hs hpl, fun s F H σ hh sm hc Q q => ?_⟩
  obtain ⟨k1, k2⟩ := conj_app hc
  refine q1 s F H σ hh sm k1 _ fun v F1 H1 g1 hh1 r1 => hr v (f s) F1 H1 g1.fh r1 ?_ Q fun z F2 H2 g2 r2 => q z F2 H2 (g1.trans g2.of0) (hh1.grow g2) r2
  have : ∀ {cc : List (τ.α → Prop)}, Conj (cc.map fun c s => c (f s)) s → ConjC (cc.map fun c y (_ : Unit) => c y) (f s) () := by
    intro cc
    induction cc with
    | nil => intro _; trivial
    | cons c cc ih => intro h; exact ⟨h.1, ih h.2⟩
  exact this k2
/-- len of a list; of a text -/
theorem DX.len {to : L.α → List τ.α} {px : Pos} {f : S → L.α} (hl : LL L τ to) (hm : X.mg "len" = none) (he : DX K X Δ e L ms c1 Δ1 f ta) (hK : X.K = K := by rfl) (hg : Gl X "len" := by rfl) (hs : starEach [e] X.env = (false, eval e X.env) :: starEach [] X.env := by rfl) (hpl : (backTo pos (starEach [] X.env)).any (·.1) = false := by rfl) :
    DX K X Δ (.Call (.Name "len" px) [e] [] pos) (tInt K) ms (c1 ++ []) Δ1 (fun s => ((to (f s)).length : Int)) (tCB (fun xs H Q => ∃ p ys, xs = [.ref p] ∧ (SqL K H p ys ∨ SqT K H p ys) ∧ Q (.int ys.length) H) (tCons ta tNil)) := by
  subst hK
  exact DX.call1 (τ1 := tInt X.K) (cc := []) (g := fun x => ((to x).length : Int)) call_len_seq (fun v x F H sm r _ Q q => by
    obtain ⟨a, vs, ev, sq, pr, _⟩ := hl r
    exact ⟨a, vs, by rw [ev], .inl (sm.seq sq), q _ F H (Gr.refl sm) (by rw [pr.length])⟩) hm PySem.boot_len he hg (by decide) (by decide) hs hpl
/-- repr -/
def rRepr (K : PySem.W.Frag) : List V → Hp → VK → Prop := fun xs H Q => ∃ x d, xs = [x] ∧ Dp K H x d ∧ d.showable = true ∧ d.hasDict = false ∧ d.depth ≤ 64 ∧ d.shown.length ≤ sizeLine ∧ Q (.str d.shown) H
theorem call_repr_d {k : Nat} (hr : RoomG k X.A) : CallR X (.builtin "repr") (rRepr X.K) := by
  intro pins s σ H xs us Q I r h
  obtain ⟨x, d, rfl, hd, h1, h2, h3, h4, q⟩ := h
  obtain ⟨u, rfl, ru⟩ := vals1 r
  cases hd with
  | non =>
    obtain rfl : u = Value.none := ru
    exact PySem.P.repr_of_none ⟨.str _, H, I.tok _, ⟨_, rfl⟩, q⟩
  | bl b =>
    obtain rfl : u = Value.bool b := ru
    exact PySem.P.repr_of_bool ⟨.str _, H, I.tok _, ⟨_, rfl⟩, q⟩
  | int i =>
    obtain ⟨t, rfl⟩ := ru
    exact PySem.P.repr_of_int (of_decide_eq_true h1) ⟨.str _, H, I.tok _, ⟨_, rfl⟩, q⟩
  | str z =>
    obtain ⟨t, rfl⟩ := ru
    exact PySem.P.repr_of_str ⟨.str _, H, I.tok _, ⟨_, rfl⟩, q⟩ h4
  | @lst a xs ds sq al =>
    obtain ⟨as, rd⟩ := Dp.reads I (.list ds) (.ref a) u (.lst sq al) ru
    obtain rfl : u = Value.ref a := ru
    have hu := hr.rm.un
    exact repr_of_reads' rd h1 (fun e => by rw [h2] at e; cases e) hr.gd (by omega) (fun _ _ e => e) (fun h' w tk hk => ⟨.str _, H, I.kept hk, ⟨_, rfl⟩, q⟩) h4
  | @tup a xs ds sq al =>
    obtain ⟨as, rd⟩ := Dp.reads I (.tuple ds) (.ref a) u (.tup sq al) ru
    obtain rfl : u = Value.ref a := ru
    have hu := hr.rm.un
    exact repr_of_reads' rd h1 (fun e => by rw [h2] at e; cases e) hr.gd (by omega) (fun _ _ e => e) (fun h' w tk hk => ⟨.str _, H, I.kept hk, ⟨_, rfl⟩, q⟩) h4
theorem DX.repr {k : Nat} {d : DF τ.α} {px : Pos} {f : S → τ.α} (hr : RoomG k X.A) (hd : Dat τ d) (hm : X.mg "repr" = none) (he : DX K X Δ e τ ms c1 Δ1 f ta) (hn : d.n ≤ 64 := by decide) (hK : X.K = K := by rfl) (hg : Gl X "repr" := by rfl) (hs : starEach [e] X.env = (false, eval e X.env) :: starEach [] X.env := by rfl) (hpl : (backTo pos (starEach [] X.env)).any (·.1) = false := by rfl) :
    DX K X Δ (.Call (.Name "repr" px) [e] [] pos) (tTxt K) ms (c1 ++ [fun s => ShowOk d (f s)]) Δ1 (fun s => reprOf d (f s)) (tCB (rRepr K) (tCons ta tNil)) := by
  subst hK
  exact DX.call1 (τ1 := tTxt X.K) (cc := [ShowOk d]) (g := fun x => reprOf d x) (call_repr_d hr) (fun v x F H sm r hc Q q => ⟨v, d.toD x, rfl, hd.dp (τ.mono sm r), hc.1.1, hd.pl.nodict x, Nat.le_trans (hd.pl.dep x) hn, hc.1.2, q _ F H (Gr.refl sm) rfl⟩) hm (by decide +kernel) he hg (by decide) (by decide) hs hpl
/-- max, min of two ints -/
theorem DX.max2 {f g : S → Int} {px : Pos} (hm : X.mg "max" = none) (ha : DX K X Δ a (tInt K) m1 c1 Δ1 f ta) (hb : DX K X Δ1 b (tInt K) m2 c2 Δ2 g tb) (hc : X.calm = true := by rfl) (hg : Gl X "max" := by rfl) (hs : starEach [a, b] X.env = (false, eval a X.env) :: starEach [b] X.env := by rfl) (hs2 : starEach [b] X.env = (false, eval b X.env) :: starEach [] X.env := by rfl) (hpl : (backTo pos (starEach [b] X.env)).any (·.1) = false := by rfl) :
    DX K X Δ (.Call (.Name "max" px) [a, b] [] pos) (tInt K) (m1 ++ m2) (c1 ++ c2) Δ2 (fun s => max (f s) (g s)) (tCB (fun xs H Q => ∃ i j, xs = [.int i, .int j] ∧ Q (.int (if j > i then j else i)) H) (tCons ta (tCons tb tNil))) := by
  obtain ⟨d1, p, r⟩ := ha
  obtain ⟨d2, p2, r2⟩ := hb
  refine ⟨d1.trans d2, pe_callB (call_max2 hc) hg hm (by decide +kernel) (pa_cons p (pa_cons p2 pa_nil hs2) hs) (by decide) (by decide) hs hpl, fun s F H σ hh sm hc Q q => ?_⟩
  obtain ⟨k1, k2⟩ := conj_app hc
  refine r s F H σ hh sm k1 _ fun v F1 H1 g1 hh1 r1 => r2 s F1 H1 σ hh1 g1.fh k2 _ fun w F2 H2 g2 hh2 r3 => ⟨f s, g s, by rw [show v = .int (f s) from r1, show w = .int (g s) from r3], ?_⟩
  refine q _ F2 H2 ((g1.mono (msAt_l (m2 := m2))).trans (g2.mono (msAt_r (m1 := m1)))) hh2 (congrArg V.int (show (if g s > f s then g s else f s) = max (f s) (g s) by omega))
theorem DX.min2 {f g : S → Int} {px : Pos} (hm : X.mg "min" = none) (ha : DX K X Δ a (tInt K) m1 c1 Δ1 f ta) (hb : DX K X Δ1 b (tInt K) m2 c2 Δ2 g tb) (hc : X.calm = true := by rfl) (hg : Gl X "min" := by rfl) (hs : starEach [a, b] X.env = (false, eval a X.env) :: starEach [b] X.env := by rfl) (hs2 : starEach [b] X.env = (false, eval b X.env) :: starEach [] X.env := by rfl) (hpl : (backTo pos (starEach [b] X.env)).any (·.1) = false := by rfl) :
    DX K X Δ (.Call (.Name "min" px) [a, b] [] pos) (tInt K) (m1 ++ m2) (c1 ++ c2) Δ2 (fun s => min (f s) (g s)) (tCB (fun xs H Q => ∃ i j, xs = [.int i, .int j] ∧ Q (.int (if j < i then j else i)) H) (tCons ta (tCons tb tNil))) := by
  obtain ⟨d1, p, r⟩ := ha
  obtain ⟨d2, p2, r2⟩ := hb
  refine ⟨d1.trans d2, pe_callB (call_min2 hc) hg hm (by decide +kernel) (pa_cons p (pa_cons p2 pa_nil hs2) hs) (by decide) (by decide) hs hpl, fun s F H σ hh sm hc Q q => ?_⟩
  obtain ⟨k1, k2⟩ := conj_app hc
  refine r s F H σ hh sm k1 _ fun v F1 H1 g1 hh1 r1 => r2 s F1 H1 σ hh1 g1.fh k2 _ fun w F2 H2 g2 hh2 r3 => ⟨f s, g s, by rw [show v = .int (f s) from r1, show w = .int (g s) from r3], ?_⟩
  refine q _ F2 H2 ((g1.mono (msAt_l (m2 := m2))).trans (g2.mono (msAt_r (m1 := m1)))) hh2 (congrArg V.int (show (if g s < f s then g s else f s) = min (f s) (g s) by omega))
/-- int(bool) -/
def b2I (b : Bool) : Int := if b then 1 else 0
theorem DX.intB {f : S → Bool} {px : Pos} (hm : X.mg "int" = none) (he : DX K X Δ e (tBool K) ms c1 Δ1 f ta) (hg : Gl X "int" := by rfl) (hs : starEach [e] X.env = (false, eval e X.env) :: starEach [] X.env := by rfl) (hpl : (backTo pos (starEach [] X.env)).any (·.1) = false := by rfl) :
    DX K X Δ (.Call (.Name "int" px) [e] [] pos) (tInt K) ms c1 Δ1 (fun s => b2I (f s)) (tCB (fun xs H Q => (∃ i, xs = [.int i] ∧ Q (.int i) H) ∨ ∃ k, xs = [.bl k] ∧ Q (.int (if k then 1 else 0)) H) (tCons ta tNil)) := by
  obtain ⟨d1, p, r⟩ := he
  refine ⟨d1, pe_callTy call_int1 hg hm (by decide +kernel) (pa_cons p pa_nil hs) (by decide) (by decide) hs hpl, fun s F H σ hh sm hc Q q => ?_⟩
  exact r s F H σ hh sm hc _ fun v F1 H1 g1 hh1 r1 => .inr ⟨f s, by rw [show v = .bl (f s) from r1], q _ F1 H1 g1 hh1 rfl⟩
end
end Dx

/-! Dx, part I: calls that hand back an own object, lists put together, two stores at once, the law's end. -/
namespace Dx
open PySem PySem.Spec PyProof.Rows L2
section
variable {K : PySem.W.Frag} {X : Cx} {S R R' : Type} {Δ Δ1 Δ2 Δ3 : Ctx K S} {st : Stmt} {e a b c tg iter elt : Expr} {es ifs : List Expr} {pos p' apos : Pos} {τ τe τ1 τ2 L L2' : Ty K} {ω ω1 ω2 : OTy K} {mus ms m1 m2 is vs : List Nat} {c1 c2 c3 cs : List (S → Prop)} {ta tb te : TE} {tt tx : TT} {tl : TA} {i j : Nat} {x y : Str} {fm : Fm K R'}
/-- a call's worth, whatever it hands back -/
def DC (K : PySem.W.Frag) (X : Cx) (Δ : Ctx K S) (e : Expr) {R' : Type} (fm : Fm K R') (ms : List Nat) (cs : List (S → Prop)) (Δ1 : Ctx K S) (z : S → R') (t : TE) : Prop :=
  Diff ms Δ Δ1 ∧ PE X e t ∧ ∀ s F H σ, Holds Δ s F H σ → Same F H → Conj cs s → ∀ Q : VK, (∀ v F' H', Gr (MsAt ms σ) F H F' H' → Holds Δ1 s F' H' σ → RetOk (fun q => H q = none) F' H' fm.ret v (fm.res (z s)) → Q v H') → t σ H Q
theorem DX.ofC {z : S → R'} {fr : S → τ.α} (h : DC K X Δ e fm ms cs Δ1 z ta) (hret : fm.ret = .fz τ) (hf : ∀ s, HEq (fm.res (z s)) (fr s)) : DX K X Δ e τ ms cs Δ1 fr ta :=
  ⟨h.1, h.2.1, fun s F H σ hh sm hc Q q => h.2.2 s F H σ hh sm hc Q fun v F1 H1 g hh1 ro => q v F1 H1 g hh1 (by
    have := hf s
    revert this ro
    generalize fm.res (z s) = w
    revert w
    rw [hret]
    intro w ro hz
    rw [← eq_of_heq hz]
    exact ro)⟩
theorem DO.ofC {z : S → R'} {fr : S → ω.τ.α} (h : DC K X Δ e fm ms cs Δ1 z ta) (hret : fm.ret = .ow ω) (hf : ∀ s, HEq (fm.res (z s)) (fr s)) : DO K X Δ e ω ms cs Δ1 fr ta :=
  ⟨h.1, h.2.1, fun s F H σ hh sm hc Q q => h.2.2 s F H σ hh sm hc Q fun v F1 H1 g hh1 ro => by
    have := hf s
    revert this ro
    generalize fm.res (z s) = w
    revert w
    rw [hret]
    intro w ro hz
    rw [eq_of_heq hz] at ro
    obtain ⟨p, u, rfl, n1, n2, e1, o1⟩ := ro
    exact q p u F1 H1 g hh1 n1 n2 e1 o1⟩
theorem up_diff {ps : List (PK K)} {r : S → HM ps} {as : List (AK K S)} (u : Up Δ as ps r Δ2) : OwnAll Δ (lent as) → Diff (lent as) Δ Δ2 := by
  induction u with
  | nil => intro _; exact Diff.refl
  | fz _ ih => exact ih
  | @mu Δ Δ1 j ω as ps r t ih =>
    rintro ⟨⟨ω0, f0, h0⟩, ow⟩
    have back : ∀ {i : Nat} {ω1 : OTy K} {f1 : S → ω1.τ.α}, Δ[i]? = some (.ow ω1 f1) → ∃ (ω' : OTy K) (f' : S → ω'.τ.α), (Δ.set j (.ow ω fun s => (r s).1))[i]? = some (.ow ω' f') := fun {i ω1 f1} e => by
      by_cases z : j = i
      · subst z
        exact ⟨_, _, List.getElem?_set_self (List.getElem?_eq_some_iff.mp e).1⟩
      · exact ⟨_, _, by rw [List.getElem?_set_ne z]; exact e⟩
    have ow' : ∀ {l : List Nat}, OwnAll Δ l → OwnAll (Δ.set j (.ow ω fun s => (r s).1)) l := by
      intro l
      induction l with
      | nil => intro _; trivial
      | cons a l ih2 =>
        rintro ⟨⟨_, _, w⟩, w2⟩
        exact ⟨back w, ih2 w2⟩
    have d0 : Diff [j] Δ (Δ.set j (.ow ω fun s => (r s).1)) := ⟨List.length_set .., fun i n => List.getElem?_set_ne fun z => n (by rw [z]; exact List.mem_singleton.mpr rfl), fun i ω1 f1 e => by
      rcases get_set1 e with ⟨rfl, _, _⟩ | ⟨_, e⟩
      · exact ⟨_, _, h0⟩
      · exact ⟨_, _, e⟩⟩
    exact d0.trans (ih (ow' ow))
theorem DC.call {k : Nat} {f : Addr} {fd : FuncData} {ps : List Str} {p : HP fm.ps → Prop} {fv : HP fm.ps → R'} {as : List (AK K S)} {g : S → HP fm.ps} {px : Pos} {t : TA} (G : FnG X.prog X.w K X.mg X.base CX0 k f fd ps (SpOf fm p fv)) (hr : RoomG k X.A) (hm : X.mg x = some (.ref f)) (hk : PySem.W.keepIn K (.ref f) = true) (hb : Binds K fd ps [])
    (ha : DA K X Δ (e :: es) m1 c1 Δ1 as t) (har : Ar Δ1 as fm.ps g) (hup : Up Δ1 as fm.ps (fun s => fm.mv (fv (g s))) Δ2) (hnd : (lent as).Nodup) (how : OwnAll Δ1 (lent as)) (hK : X.K = K := by rfl) (hg : Gl X x := by rfl) (hdb : (x == ("__debug__" : Str)) = false := by decide) (he : starEach (e :: es) X.env = (false, eval e X.env) :: starEach es X.env := by rfl) (hpl : (backTo pos (starEach es X.env)).any (·.1) = false := by rfl) :
    DC K X Δ (.Call (.Name x px) (e :: es) [] pos) fm (m1 ++ lent as) (c1 ++ [fun s => p (g s)]) Δ2 (fun s => fv (g s)) (tCall (SpOf fm p fv) [] E0 t) := by
  subst hK
  obtain ⟨d1, pa, ra⟩ := ha
  refine ⟨d1.trans (up_diff hup how), pe_callg G hr hg hm hk hb pass0 pa hdb he hpl, fun s F H σ hh sm hc Q q => ?_⟩
  obtain ⟨k1, k2, _⟩ := conj_app hc
  refine ra s F H σ hh sm k1 _ fun vs F1 H1 g1 hh1 r1 => ?_
  show SpOf fm p fv (vs ++ []) H1 Q E0
  rw [List.append_nil]
  obtain ⟨w1, w2⟩ := har.holds hh1 g1.fh r1 hnd
  refine ⟨F1, g s, w1, g1.fh, k2, fun v F2 H2 g2 ro mo => ?_⟩
  have g2' : Gr (MsAt (lent as) σ) F1 H1 F2 H2 := g2.mono fun a ⟨j, hj, e⟩ => har.muts 0 (us := []) rfl r1 j hj a e
  refine q v F2 H2 ((g1.mono (msAt_l (m2 := lent as))).trans (g2'.mono (msAt_r (m1 := m1)))) (hup.holds (k := 0) (us := []) rfl r1 hnd mo how.all hh1.len.symm (fun i sl o ni e1 e2 => ?_) hh1.sep).1 (ro.dom fun a h => g1.dom a h)
  have r := hh1.at_ i sl o e1 e2
  cases sl with
  | dead => trivial
  | fz τ f => obtain ⟨v, ev, rv⟩ := r; exact ⟨v, ev, τ.mono g2'.ff rv⟩
  | ow ω f =>
    obtain ⟨p1, u1, ev, n1, h1, o1⟩ := r
    subst ev
    have nl : ¬ MsAt (lent as) σ p1 := fun ⟨j, hj, e3⟩ => by
      obtain ⟨ω', f', e4⟩ := how.all j hj
      exact hh1.sep i j ω ω' f f' p1 (fun z => ni (z ▸ hj)) e1 e4 e2 e3
    refine ⟨p1, u1, rfl, ?_, g2'.keep _ _ h1 nl, ω.mono g2'.ff o1⟩
    cases y : F2 p1 with
    | none => rfl
    | some o' =>
      rcases g2'.fresh p1 o' y with z | z
      · rw [n1] at z; cases z
      · rw [h1] at z; cases z

/-! #### lists put together -/
def rCatS (K : PySem.W.Frag) : R2 := fun x y H Q => ∃ l b xs zs, x = .ref l ∧ y = .ref b ∧ SqL K H l xs ∧ SqL K H b zs ∧ xs.length + zs.length ≤ sizeLine ∧ ∀ p, H p = none → Q (.ref p) (upd H p (.lst (xs ++ zs)))
theorem op_catS : OpR X (binaryOp .Add) (rCatS X.K) := by
  intro pins s σ H x y v u Q I rx ry h
  obtain ⟨l, b, xs, zs, rfl, rfl, hx, hz, hs, q⟩ := h
  cases rx
  cases ry
  obtain ⟨its, r, ⟨⟨cl, dd, da, sl⟩, n, ho, hc, hd0, hd⟩, _⟩ := I.list hx
  obtain ⟨its2, r2, ⟨⟨cl2, dd2, da2, sl2⟩, n2, ho2, hc2, hd02, hd2⟩, _⟩ := I.list hz
  simp only at hc hd hc2 hd2
  subst hc hd hc2 hd2
  have e : its.toArray ++ its2.toArray = (its ++ its2).toArray := by simp
  refine concat_meets ⟨_, ho, rfl⟩ ⟨_, ho2, rfl⟩ noFill_list_add seq_list_add PySem.F.slot_list_add PySem.F.entry_list_add (PySem.F.args_list_add_2 _ _) (PyProof.Rows.list_addW l b its.toArray its2.toArray n n2 dd dd2 sl sl2 (by rw [List.size_toArray, List.size_toArray, ← r.length, ← r2.length]; exact hs)) ⟨ho, ho2, ?_⟩
  rw [e]
  exact ⟨.ref _, _, I.lnew (t' := s.toks) (r.append r2) (by rw [List.length_append]; omega), rfl, q _ I.fresh⟩
theorem DO.cat {to : L.α → List τ.α} {to1 : L2'.α → List τ.α} {f : S → L.α} {g : S → L2'.α} (hl : LL L τ to) (hl1 : LL L2' τ to1) (ha : DX K X Δ a L m1 c1 Δ1 f ta) (hb : DX K X Δ1 b L2' m2 c2 Δ2 g tb) (hK : X.K = K := by rfl) : DO K X Δ (.BinOp a .Add b pos) (oList τ) (m1 ++ m2) (c1 ++ (c2 ++ [fun s => (to (f s)).length + (to1 (g s)).length ≤ sizeLine])) Δ2 (fun s => to (f s) ++ to1 (g s)) (tOp (rCatS K) ta tb) := by
  subst hK
  exact DO.bin (ω := oList τ) (cc := [fun x y => (to x).length + (to1 y).length ≤ sizeLine]) (g := fun x y => to x ++ to1 y) (fun x y v u F H sm r1 r2 hc Q q => by
    obtain ⟨a, vs, e1, s1, p1, z1⟩ := hl r1
    obtain ⟨b, ws, e2, s2, p2, z2⟩ := hl1 r2
    refine ⟨a, b, vs, ws, e1, e2, sm.seq s1, sm.seq s2, by rw [p1.length, p2.length]; exact hc.1, fun p n => q p _ n ⟨_, rfl, paired_app p1 p2, ?_⟩⟩
    rw [List.length_append]
    exact hc.1) ha hb fun p q => pe_op op_catS p q
theorem paired_flat {α β : Type} {R : α → β → Prop} {xs : List α} {ys : List β} (h : Paired R xs ys) : ∀ n : Nat, Paired R (List.replicate n xs).flatten (List.replicate n ys).flatten
  | 0 => .nil
  | n + 1 => by
    rw [List.replicate_succ, List.replicate_succ, List.flatten_cons, List.flatten_cons]
    exact paired_app h (paired_flat h n)
def repL {α : Type} (xs : List α) (n : Int) : List α := (List.replicate n.toNat xs).flatten
def RepOk {α : Type} (xs : List α) (n : Int) : Prop := -(2 ^ 63) ≤ n ∧ n < 2 ^ 63 ∧ xs.length * n.toNat ≤ sizeLine
theorem repL_len {α : Type} (xs : List α) (n : Int) : (repL xs n).length = xs.length * n.toNat := by
  unfold repL
  rw [List.length_flatten, List.map_replicate, List.sum_replicate_nat, Nat.mul_comm]
theorem DO.rep {f : S → List τ.α} {g : S → Int} (ha : DX K X Δ a (tList τ) m1 c1 Δ1 f ta) (hb : DX K X Δ1 b (tInt K) m2 c2 Δ2 g tb) : DO K X Δ (.BinOp a .Mult b pos) (oList τ) (m1 ++ m2) (c1 ++ (c2 ++ [fun s => RepOk (f s) (g s)])) Δ2 (fun s => repL (f s) (g s)) (tOp rRep ta tb) :=
  DO.bin (τa := tList τ) (τb := tInt K) (ω := oList τ) (cc := [fun x y => RepOk x y]) (g := fun x y => repL x y) (fun x y v u F H sm r1 r2 hc Q q => by
    obtain ⟨a, vs, e1, s1, p1, z1⟩ := r1
    obtain ⟨h1, h2, h3⟩ := hc.1
    refine ⟨a, y, vs, e1, r2, sm _ _ s1, h1, h2, by rw [p1.length]; exact h3, fun p n => q p _ n ⟨_, rfl, paired_flat p1 _, ?_⟩⟩
    rw [repL_len]
    exact h3) ha hb fun p q => pe_op op_rep p q
/-- a part of a slice -/
def DPo (K : PySem.W.Frag) (X : Cx) (Δ : Ctx K S) (o : Option Expr) (ms : List Nat) (cs : List (S → Prop)) (Δ1 : Ctx K S) (f : S → Option Int) (t : TO) : Prop :=
  Diff ms Δ Δ1 ∧ PO X o t ∧ ∀ s F H σ, Holds Δ s F H σ → Same F H → Conj cs s → ∀ Q : Option Int → Hp → Prop, (∀ F' H', Gr (MsAt ms σ) F H F' H' → Holds Δ1 s F' H' σ → Q (f s) H') → t σ H Q
theorem DPo.none : DPo K X Δ none [] [] Δ (fun _ => none) tNoPart := ⟨Diff.refl, po_none, fun s F H σ hh sm _ Q q => q F H (Gr.refl sm) hh⟩
theorem DPo.some {f : S → Int} (h : DX K X Δ e (tInt K) ms c1 Δ1 f ta) : DPo K X Δ (some e) ms c1 Δ1 (fun s => some (f s)) (tPart ta) :=
  ⟨h.1, po_some h.2.1, fun s F H σ hh sm hc Q q => h.2.2 s F H σ hh sm hc _ fun v F1 H1 g hh1 r => ⟨f s, r, q F1 H1 g hh1⟩⟩
def cutL {α : Type} (xs : List α) (lo hi : Option Int) : List α := (xs.drop (HT.sIx xs.length 0 lo)).take (HT.sIx xs.length xs.length hi - HT.sIx xs.length 0 lo)
theorem paired_drop {α β : Type} {R : α → β → Prop} : ∀ {xs : List α} {ys : List β} (n : Nat), Paired R xs ys → Paired R (xs.drop n) (ys.drop n)
  | _, _, 0, h => h
  | _, _, n + 1, .nil => .nil
  | _, _, n + 1, .cons _ t => paired_drop n t
theorem paired_take {α β : Type} {R : α → β → Prop} : ∀ {xs : List α} {ys : List β} (n : Nat), Paired R xs ys → Paired R (xs.take n) (ys.take n)
  | _, _, 0, _ => .nil
  | _, _, n + 1, .nil => .nil
  | _, _, n + 1, .cons r t => .cons r (paired_take n t)
theorem cutL_len {α : Type} (xs : List α) (lo hi : Option Int) : (cutL xs lo hi).length ≤ xs.length := by
  unfold cutL
  rw [List.length_take, List.length_drop]
  omega
theorem DO.sl {to : L.α → List τ.α} {f : S → L.α} {lo hi : Option Expr} {flo fhi : S → Option Int} {tlo thi : TO} {p2 : Pos} (hl : LL L τ to) (ha : DX K X Δ a L m1 c1 Δ1 f ta) (h1 : DPo K X Δ1 lo m2 c2 Δ2 flo tlo) (h2 : DPo K X Δ2 hi ms c3 Δ3 fhi thi) (hK : X.K = K := by rfl) : DO K X Δ (.Subscript a (.Slice lo hi none p2) pos) (oList τ) (m1 ++ (m2 ++ ms)) (c1 ++ (c2 ++ c3)) Δ3 (fun s => cutL (to (f s)) (flo s) (fhi s)) (tSl (rSlL K) ta tlo thi) := by
  subst hK
  obtain ⟨d1, p1, r1⟩ := ha
  obtain ⟨d2, q2, r2⟩ := h1
  obtain ⟨d3, q3, r3⟩ := h2
  refine ⟨d1.trans (d2.trans d3), pe_slice sl_list p1 q2 q3, fun s F H σ hh sm hc Q q => ?_⟩
  obtain ⟨k1, k2⟩ := conj_app hc
  obtain ⟨k2, k3⟩ := conj_app k2
  refine r1 s F H σ hh sm k1 _ fun v F1 H1 g1 hh1 w1 => r2 s F1 H1 σ hh1 g1.fh k2 _ fun F2 H2 g2 hh2 => r3 s F2 H2 σ hh2 g2.fh k3 _ fun F3 H3 g3 hh3 => ?_
  obtain ⟨a, vs, ev, sq, pr, z⟩ := hl (L.mono (g2.ff.trans g3.ff) w1)
  refine ⟨a, vs, ev, g3.fh.seq sq, fun p n => ?_⟩
  have ec : (cutV vs (flo s) (fhi s)) = (vs.drop (HT.sIx (to (f s)).length 0 (flo s))).take (HT.sIx (to (f s)).length (to (f s)).length (fhi s) - HT.sIx (to (f s)).length 0 (flo s)) := by
    unfold cutV
    rw [pr.length]
  have ow : (oList τ).own F3 (.lst (cutV vs (flo s) (fhi s))) (cutL (to (f s)) (flo s) (fhi s)) := ⟨_, rfl, by rw [ec]; exact paired_take _ (paired_drop _ pr), Nat.le_trans (cutL_len _ _ _) z⟩
  have g12 := (g1.mono (msAt_l (m2 := m2 ++ ms))).trans ((g2.mono (fun a h => msAt_r (m1 := m1) a (msAt_l (m2 := ms) a h))).trans (g3.mono fun a h => msAt_r (m1 := m1) a (msAt_r (m1 := m2) a h)))
  obtain ⟨g4, fn, e4⟩ := own_of_new (ω := oList τ) g3.fh n ow
  exact q p _ F3 _ (g12.trans g4.of0) (hh3.grow g4) (g12.dom p n) fn e4 ow

/-! #### two names stored at once -/
/-- a value fit for a slot -/
def Fit (F H : Hp) (s : S) (v : V) : Slot K S → Prop
  | .dead => True
  | .fz τ f => τ.rep F v (f s)
  | .ow ω f => ∃ p u, v = .ref p ∧ F p = none ∧ H p = some u ∧ ω.own F u (f s)
def DV (K : PySem.W.Frag) (X : Cx) (Δ : Ctx K S) (e : Expr) (sl : Slot K S) (ms : List Nat) (cs : List (S → Prop)) (Δ1 : Ctx K S) (t : TE) : Prop :=
  Diff ms Δ Δ1 ∧ PE X e t ∧ ∀ s F H σ, Holds Δ s F H σ → Same F H → Conj cs s → ∀ Q : VK, (∀ v F' H', Gr (MsAt ms σ) F H F' H' → Holds Δ1 s F' H' σ → Fit F' H' s v sl → (∀ (ω : OTy K) (f : S → ω.τ.α) p, sl = .ow ω f → v = .ref p → H p = none) → Q v H') → t σ H Q
theorem DV.fz {f : S → τ.α} (h : DX K X Δ e τ ms c1 Δ1 f ta) : DV K X Δ e (.fz τ f) ms c1 Δ1 ta := ⟨h.1, h.2.1, fun s F H σ hh sm hc Q q => h.2.2 s F H σ hh sm hc Q fun v F1 H1 g hh1 r => q v F1 H1 g hh1 r fun _ _ _ z => nomatch z⟩
theorem DV.ow {f : S → ω.τ.α} (h : DO K X Δ e ω ms c1 Δ1 f ta) : DV K X Δ e (.ow ω f) ms c1 Δ1 ta := ⟨h.1, h.2.1, fun s F H σ hh sm hc Q q => h.2.2 s F H σ hh sm hc Q fun p u F1 H1 g hh1 n1 n2 e1 o1 => q _ F1 H1 g hh1 ⟨p, u, rfl, n2, e1, o1⟩ fun _ _ p' _ e => by cases e; exact n1⟩
theorem DS.par {sa sb : Slot K S} {px py pt : Pos} {kt k2 : Nat} {pt2 : Pos} (ha : DV K X Δ a sa m1 c1 Δ1 ta) (hb : DV K X Δ1 b sb m2 c2 Δ2 tb) (hm : OwnAll Δ (m1 ++ m2)) (hN : X.N.Nodup) (hi : X.N[i]? = some x) (hj : X.N[j]? = some y) (hij : i ≠ j) (hx : X.env.scope.names.lookup x = some .local) (hy : X.env.scope.names.lookup y = some .local) (hu : i ∉ mus) (hu2 : j ∉ mus)
    (hw : swappedStores [.Tuple [.Name x px, .Name y py] kt pt] (.Tuple [a, b] k2 pt2) X.env = pure (some [x, y]) := by rfl) (hc : X.calm = true := by rfl) (hsw : swapsWithSole [.Tuple [.Name x px, .Name y py] kt pt] (.Tuple [a, b] k2 pt2) pos.line X.env = pure false := by rfl)
    (hs : starEach [a, b] X.env = (false, eval a X.env) :: starEach [b] X.env := by rfl) (hs2 : starEach [b] X.env = (false, eval b X.env) :: starEach [] X.env := by rfl) :
    DS K X mus Δ (.Assign [.Tuple [.Name x px, .Name y py] kt pt] (.Tuple [a, b] k2 pt2) pos) (c1 ++ c2) ((Δ2.set i sa).set j sb) := by
  obtain ⟨d1, p1, r1⟩ := ha
  obtain ⟨d2, p2, r2⟩ := hb
  refine ⟨_, ps_par hc hN hi hj hij hx hy (pa_cons p1 (pa_cons p2 pa_nil hs2) hs) hw hsw, fun s F H σ hh sm hc D q => ?_⟩
  obtain ⟨k1, k2⟩ := conj_app hc
  refine r1 s F H σ hh sm k1 _ fun v F1 H1 g1 hh1 f1 n1 => r2 s F1 H1 σ hh1 g1.fh k2 _ fun w F2 H2 g2 hh2 f2 n2 => ⟨v, w, rfl, ?_⟩
  have g12 := (g1.mono (msAt_l (m2 := m2))).trans (g2.mono (msAt_r (m1 := m1)))
  have gs : GrS mus Δ σ Δ2 σ F H F2 H2 := gs0 hm (d1.trans d2) hh g12
  -- what was made first still fits
  have f1' : Fit F2 H2 s v sa := by
    cases sa with
    | dead => trivial
    | fz τ f => exact τ.mono g2.ff f1
    | ow ω f =>
      obtain ⟨p, u, e, z1, z2, z3⟩ := f1
      have hn := n1 ω f p rfl e
      refine ⟨p, u, e, ?_, g2.keep _ _ z2 fun ⟨k, hk, e3⟩ => ?_, ω.mono g2.ff z3⟩
      · cases y0 : F2 p with
        | none => rfl
        | some o =>
          rcases g2.fresh p o y0 with t | t
          · rw [z1] at t; cases t
          · rw [z2] at t; cases t
      · obtain ⟨ω', f', e4⟩ := hm.all k (List.mem_append_right _ hk)
        obtain ⟨p', u', e5, _, e6, _⟩ := hh.at_ k _ _ e4 e3
        cases e5
        rw [hn] at e6; cases e6
  have nown : ∀ p, H p = none → ¬ Own Δ2 σ p := fun p hn ⟨k, ω, f, e1, e2⟩ => ((d1.trans d2).was hh e1 e2).2 hn
  have hA : Holds (Δ2.set i sa) s F2 H2 (σ.set i (some v)) := by
    cases sa with
    | dead =>
      exact ⟨by rw [List.length_set, List.length_set]; exact hh2.len, fun k sl o e1 e2 => by
        rcases get_set1 e1 with ⟨_, z, _⟩ | ⟨n, e1⟩
        · subst z; trivial
        · rw [List.getElem?_set_ne n] at e2; exact hh2.at_ k sl o e1 e2, fun k l ω ω' f f' p n e1 e2 e3 => by
        rcases get_set1 e1 with ⟨_, z, _⟩ | ⟨n1, e1⟩
        · cases z
        · rcases get_set1 e2 with ⟨_, z, _⟩ | ⟨n2, e2⟩
          · cases z
          · rw [List.getElem?_set_ne n1] at e3
            rw [List.getElem?_set_ne n2]
            exact hh2.sep k l ω ω' f f' p n e1 e2 e3⟩
    | fz τ f => exact hh2.setF f1'
    | ow ω f =>
      obtain ⟨p, u, e, z1, z2, z3⟩ := f1'
      subst e
      exact hh2.setO z1 z2 z3 (nown p (n1 ω f p rfl rfl))
  have gA : GrS mus Δ σ (Δ2.set i sa) (σ.set i (some v)) F H F2 H2 := gs.set hu hh2.len.symm fun ω f p e1 e2 => n1 ω f p e1 (Option.some.inj e2)
  have gB : GrS mus Δ σ ((Δ2.set i sa).set j sb) ((σ.set i (some v)).set j (some w)) F H F2 H2 := by
    refine { gs.toGrR with own := fun p ⟨k, ω, f, e1, e2⟩ => ?_, mu := fun k hk => by rw [List.getElem?_set_ne fun (e : j = k) => hu2 (by rw [e]; exact hk)]; exact gA.mu k hk }
    rcases get_set1 e1 with ⟨rfl, z, hl⟩ | ⟨n, e1⟩
    · rw [List.getElem?_set_self (by rw [hA.len]; exact hl)] at e2
      exact .inr (g1.dom p (n2 ω f p z.symm (Option.some.inj (Option.some.inj e2))))
    · rw [List.getElem?_set_ne n] at e2
      exact gA.own p ⟨k, ω, f, e1, e2⟩
  refine q _ F2 H2 gB ?_
  cases sb with
  | dead =>
    exact ⟨(List.length_set ..).trans (hA.len.trans (List.length_set ..).symm), fun k sl o e1 e2 => by
      rcases get_set1 e1 with ⟨_, z, _⟩ | ⟨n, e1⟩
      · subst z; trivial
      · rw [List.getElem?_set_ne n] at e2; exact hA.at_ k sl o e1 e2, fun k l ω ω' f f' p n e1 e2 e3 => by
      rcases get_set1 e1 with ⟨_, z, _⟩ | ⟨n1, e1⟩
      · cases z
      · rcases get_set1 e2 with ⟨_, z, _⟩ | ⟨n2, e2⟩
        · cases z
        · rw [List.getElem?_set_ne n1] at e3
          rw [List.getElem?_set_ne n2]
          exact hA.sep k l ω ω' f f' p n e1 e2 e3⟩
  | fz τ f => exact hA.setF f2
  | ow ω f =>
    obtain ⟨p, u, e, z1, z2, z3⟩ := f2
    subst e
    refine hA.setO z1 z2 z3 fun ⟨k, ω', f', e1, e2⟩ => ?_
    have hp := n2 ω f p rfl rfl
    rcases get_set1 e1 with ⟨rfl, z, hl⟩ | ⟨n, e1⟩
    · rw [List.getElem?_set_self (by rw [hh2.len]; exact hl)] at e2
      have ev : v = .ref p := Option.some.inj (Option.some.inj e2)
      subst z
      obtain ⟨p', u', e', _, z2', _⟩ := f1
      rw [ev] at e'; cases e'
      rw [hp] at z2'; cases z2'
    · rw [List.getElem?_set_ne n] at e2
      exact (d2.was hh1 e1 e2).2 hp
end
end Dx

/-! Dx, part J: the law's end. -/
namespace Dx
open PySem PySem.Spec PyProof.Rows L2
/-- the law's own def is called with the script; from a promise of the kind FnG -/
theorem law_end {P : Program} {w : World} {K : PySem.W.Frag} {mg mb : Str → Option Value} {k : Nat} {fa a : Addr} {fd : FuncData} {x : Str} {sp : Sp} {s1 : Shared} {vs : List Value} {ns : List Int}
    (KX : K.In s1.heap) (hns : s1.heap.Ns mainGlobals mg) (hb : s1.heap.Ns builtinsNs mb) (hbb : ∀ x : Str, x ≠ "__name__" → mb x = bootBuiltins x) (hlim : s1.heap.NoLimit) (hg : s1.gens = #[])
    (ha : s1.heap.get? a = some { cls := .type "list", data := .seq vs.toArray }) (hi : IntsAre vs ns) (hl : ns.length ≤ sizeLine) (hr : RoomG k callerA)
    (G : ∀ base : Heap, K.In base → base.Ns mainGlobals mg → FnG P w K mg base CX0 k fa fd [x] sp) (hbind : ∀ (s : Shared) (u : Value), BindsTo s fd ⟨[u], []⟩ [(x, u)])
    (hsp : ∀ H : Hp, Only H → SqL K H a (ns.map V.int) → sp [.ref a] H (fun v _ => v = .bl true) E0) :
    codeAny (model P w) callerA (.call (.ref fa) ⟨[.ref a], []⟩) (fun r s' => r = .ok (.ret (.bool true)) ∧ OldK s1.heap s'.heap ∧ s'.os = s1.os ∧ AllBare s'.gens) s1 := by
  have rv := vals_ints hi
  have main : ∀ H : Hp, Only H → SqL K H a (ns.map V.int) → HOk P w H s1.heap → (∀ b, H b ≠ none → b = a ∧ K.lookup a = none) →
      codeAny (model P w) callerA (.call (.ref fa) ⟨[.ref a], []⟩) (fun r s' => r = .ok (.ret (.bool true)) ∧ OldK s1.heap s'.heap ∧ s'.os = s1.os ∧ AllBare s'.gens) s1 := fun H hO hS hok hA => by
    have dictFree : ∀ {b : Addr} {o : Obj} {es : Array DictEntry} {ep : Nat}, s1.heap.get? b = some o → o.data = .dict es ep → H b = none := fun {b o es ep} e d => by
      cases q : H b with
      | none => rfl
      | some u =>
        obtain ⟨e', _⟩ := hA b (by rw [q]; exact fun z => nomatch z)
        rw [e', ha] at e
        cases e
        cases d
    have ns2 : ∀ {b : Addr} {m : Str → Option Value}, s1.heap.Ns b m → (hidT s1.heap H).Ns b m := fun ⟨o, es, ep, e, d, r⟩ => ⟨o, es, ep, hidT_get e (dictFree e d), d, r⟩
    have kb : K.In (hidT s1.heap H) := fun b o e => hidT_get (KX b o e) (by
      cases q : H b with
      | none => rfl
      | some u =>
        obtain ⟨e', n'⟩ := hA b (by rw [q]; exact fun z => nomatch z)
        rw [e'] at e
        rw [n'] at e
        cases e)
    have md : Mod K mg (hidT s1.heap H) := ⟨kb, ns2 hns, ⟨mb, ns2 hb, hbb⟩, let ⟨mc, h1, h2⟩ := hlim; ⟨mc, ns2 h1, h2⟩⟩
    have e0 : Env0 P w K mg (hidT s1.heap H) callerA [] s1 H := ⟨rfl, md, fun b o e => of_hidT e, Nat.le_of_eq (hidT_size _ _), trivial, fun b hb => absurd (show b ∈ ([] : List Addr) from hb) List.not_mem_nil, hok, .of_eq hg⟩
    refine codeAny_mono ((G _ kb (ns2 hns)).run callerA [] s1 H ⟨[.ref a], []⟩ [.ref a] [.ref a] _ _ hr e0 (hbind s1 (.ref a)) (.cons rfl .nil) (hsp H hO hS)) fun r s' h => ?_
    cases r with
    | error e => exact False.elim h
    | ok fl =>
      cases fl with
      | next => exact False.elim h
      | brk => exact False.elim h
      | cont => exact False.elim h
      | ret u =>
        obtain ⟨v, H', os, bare, un, hok', r', q⟩ := h
        have hu : u = Value.bool true := by
          rw [show v = V.bl true from q] at r'
          exact r'
        refine ⟨by rw [hu], OldK.of_keep fun b o e => ?_, os, bare⟩
        cases hb : H b with
        | none => exact un.keep b o e hb (fun z => absurd (show b ∈ ([] : List Addr) from z) List.not_mem_nil) List.not_mem_nil
        | some u =>
          rcases hO b with z | ⟨ob, xs, z⟩
          · rw [hb] at z; cases z
          · obtain ⟨e1, _⟩ := hok b _ z
            obtain ⟨e2, _⟩ := hok' b _ (un.frzs b ob _ z)
            rw [e] at e1; cases e1
            exact e2
  cases hk : K.lookup a with
  | some o =>
    have e := KX a o hk
    rw [ha] at e
    cases e
    exact main (fun _ => none) (fun _ => .inl rfl) (.inr ⟨_, vs.toArray, _, hk, rfl, rfl, rfl, by rw [List.size_toArray, hi.length]; exact hl, by simpa using rv⟩) (fun b u z => nomatch (show (none : Option HO) = some u from z)) fun b z => absurd rfl z
  | none =>
    have at1 : ∀ b, b = a → (fun b => if b = a then some (HO.frz { cls := .type "list", data := .seq vs.toArray } (.lst (ns.map V.int))) else none : Hp) b = some (.frz { cls := .type "list", data := .seq vs.toArray } (.lst (ns.map V.int))) := fun b hb => if_pos hb
    refine main (fun b => if b = a then some (.frz { cls := .type "list", data := .seq vs.toArray } (.lst (ns.map V.int))) else none) (fun b => ?_) (.inl (.inr ⟨_, at1 a rfl⟩)) (fun b u z => ?_) fun b z => ?_
    · by_cases hb : b = a
      · exact .inr ⟨_, _, at1 b hb⟩
      · exact .inl (if_neg hb)
    · by_cases hb : b = a
      · have z' := (at1 b hb).symm.trans z
        cases z'
        subst hb
        exact ⟨ha, by rw [List.length_map]; exact hl, vs, _, rv, ha⟩
      · have z' := (if_neg hb).symm.trans z
        cases z'
    · by_cases hb : b = a
      · exact ⟨hb, hk⟩
      · exact absurd (if_neg hb) z
/-- the goal that k_head leaves, from the law's promise -/
theorem law_walk {l : PySem.W.OpenLaw} {n k : Nat} {q : Program} {loose : List Str} {XP : (Str → Option Value) → Heap → Prop} {YP : World → Heap → Prop} {d : DefRec} {K : Params → PySem.W.Frag} {sp : World → Sp} {x : Str}
    (hn : l.most = some n) (hn2 : n ≤ sizeLine) (hdf : d.params.defaults = []) (hr : RoomG k callerA) (hY : ∀ (w : World) (h : Heap), YP w h → (K w.params).In h)
    (F : ∀ (w : World) (mg : Str → Option Value) (fa : Addr) (h : Heap), (K w.params).In h → h.Ns mainGlobals mg → mg d.name = some (.ref fa) →
      ∃ fd : FuncData, (∀ (s : Shared) (u : Value), BindsTo s fd ⟨[u], []⟩ [(x, u)]) ∧ ∀ base : Heap, (K w.params).In base → base.Ns mainGlobals mg → FnG l.prog w (K w.params) mg base CX0 k fa fd [x] (sp w))
    (hsp : ∀ (w : World) (H : Hp) (a : Addr) (ns : List Int), ns.length ≤ n → (∀ z ∈ ns, Builtin.Int.intBits z ≤ 1048576) → SqL (K w.params) H a (ns.map V.int) → sp w [.ref a] H (fun v _ => v = .bl true) E0) :
    PySem.W.WalkO q loose XP YP l.row.toRowW d [] (fun f vs => PySem.call f vs) :=
  Att.attach_callB hn hdf fun w s0 s1 mg mb fa o pm cd doc a vs ns G Y ho hd hcd hmg hobj hints hlen hbits hg => by
    have KX := hY w _ Y
    obtain ⟨fd, hb, hF⟩ := F w mg fa _ KX G.T.g hmg
    exact law_end KX G.T.g G.T.b G.T.builtins G.T.nolimit hg hobj hints (Nat.le_trans hlen hn2) hr hF hb fun H hO hS => hsp w H a ns hlen hbits hS
/-- the law's def: the script in, a bool out -/
abbrev fmLaw (K : PySem.W.Frag) : Fm K Bool := ⟨[.fz (tScr K)], .fz (tBool K), fun r => r, fun _ => ()⟩
/-- from data: the law's def gives True at every script -/
theorem law_sp {K : PySem.W.Frag} {p : List Int × Unit → Prop} {f : List Int × Unit → Bool} {H : Hp} {a : Addr} {ns : List Int} (h : SqL K H a (ns.map V.int)) (hl : ns.length ≤ sizeLine) (hp : p (ns, ())) (hf : f (ns, ()) = true) : SpOf (fmLaw K) p f [.ref a] H (fun v _ => v = .bl true) E0 := by
  refine ⟨H, (ns, ()), ⟨rfl, fun i sl o e1 e2 => ?_, fun i j ω ω' g g' q n e1 e2 e3 => ?_⟩, Same.refl H, hp, fun v F1 H1 g ro mo => ?_⟩
  · match i with
    | 0 =>
      have e1' : (Slot.fz (tScr K) fun s : HP [PK.fz (tScr K)] => s.1) = sl := by simpa [ctx0] using e1
      have e2' : some (V.ref a) = o := by simpa using e2
      subst e1' e2'
      exact ⟨_, rfl, a, rfl, h, hl⟩
    | i + 1 => simp [ctx0] at e1
  · match i with
    | 0 => simp [ctx0] at e1
    | i + 1 => simp [ctx0] at e1
  · have r : v = .bl (f (ns, ())) := ro
    rw [r, hf]
theorem def_fin {K : PySem.W.Frag} {X : Cx} {S R : Type} {fm : Fm K R} {Δ : Ctx K S} {sts : List Stmt} {cs : List (S → Prop)} {f fv : S → R} {p : S → Prop} (h : DR K X fm Δ sts cs f) (hf : ∀ s, f s = fv s) (hp : ∀ s, p s → Conj cs s) : ∃ cs, (∀ s, p s → Conj cs s) ∧ DB K X fm Δ sts cs fv := by
  have e : f = fv := funext hf
  exact ⟨cs, hp, .ofR (e ▸ h)⟩
theorem def_finN {K : PySem.W.Frag} {X : Cx} {S R : Type} {fm : Fm K R} {Δ Δ1 : Ctx K S} {sts : List Stmt} {cs : List (S → Prop)} {fv : S → R} {p : S → Prop} {g : S → HM fm.ps} (h : DN K X (musOf 0 fm.ps) Δ sts cs Δ1) (hg : MuF Δ1 0 fm.ps g) (hr : ResF fm (.fz (tNone K)) fv (fun _ => ()) g) (hp : ∀ s, p s → Conj cs s) : ∃ cs, (∀ s, p s → Conj cs s) ∧ DB K X fm Δ sts cs fv :=
  ⟨cs, hp, .ofN h hg hr⟩
end Dx

/-! Dx, part K: guards, powers, chains, isinstance, all and any, effects in branches, pop; and what the printed text leans on. -/
namespace Dx
open PySem PySem.Spec PyProof.Rows L2
section
variable {K : PySem.W.Frag} {X : Cx} {S R R' : Type} {Δ Δ1 Δ2 Δ3 Δa Δb : Ctx K S} {st : Stmt} {sts : List Stmt} {e a b c : Expr} {es : List Expr} {pos p' px apos : Pos} {τ τe τ1 τ2 L : Ty K} {ts : List (Ty K)} {ω : OTy K} {mus ms m1 m2 m3 : List Nat} {c1 c2 c3 cs : List (S → Prop)} {ta tb tc : TE} {tx tz : TT} {tl : TA} {i j : Nat} {x : Str} {fm : Fm K R}
/-! #### conversions: what is printed is what was derived -/
theorem DS.conv {c' : List (S → Prop)} {Δ' : Ctx K S} (h : DS K X mus Δ st cs Δ1) (e1 : cs = c') (e2 : Δ1 = Δ') : DS K X mus Δ st c' Δ' := e1 ▸ e2 ▸ h
theorem DSm.conv {r r' : S → Option R} {c' : List (S → Prop)} {Δ' : Ctx K S} (h : DSm K X fm Δ st cs r Δ1) (e1 : cs = c') (e2 : Δ1 = Δ') (e3 : r = r') : DSm K X fm Δ st c' r' Δ' := e1 ▸ e2 ▸ e3 ▸ h
theorem DN.conv {c' : List (S → Prop)} {Δ' : Ctx K S} (h : DN K X mus Δ sts cs Δ1) (e1 : cs = c') (e2 : Δ1 = Δ') : DN K X mus Δ sts c' Δ' := e1 ▸ e2 ▸ h
theorem DM.conv {r r' : S → Option R} {c' : List (S → Prop)} {Δ' : Ctx K S} (h : DM K X fm Δ sts cs r Δ1) (e1 : cs = c') (e2 : Δ1 = Δ') (e3 : r = r') : DM K X fm Δ sts c' r' Δ' := e1 ▸ e2 ▸ e3 ▸ h
theorem DR.conv {f f' : S → R} {c' : List (S → Prop)} (h : DR K X fm Δ sts cs f) (e1 : cs = c') (e3 : f = f') : DR K X fm Δ sts c' f' := e1 ▸ e3 ▸ h
theorem DX.conv {f f' : S → τ.α} {c' : List (S → Prop)} {Δ' : Ctx K S} (h : DX K X Δ e τ ms cs Δ1 f ta) (e1 : cs = c') (e2 : Δ1 = Δ') (e3 : f = f') : DX K X Δ e τ ms c' Δ' f' ta := e1 ▸ e2 ▸ e3 ▸ h
theorem DO.conv {f f' : S → ω.τ.α} {c' : List (S → Prop)} {Δ' : Ctx K S} (h : DO K X Δ e ω ms cs Δ1 f ta) (e1 : cs = c') (e2 : Δ1 = Δ') (e3 : f = f') : DO K X Δ e ω ms c' Δ' f' ta := e1 ▸ e2 ▸ e3 ▸ h
theorem DT.conv {f f' : S → Bool} {c' : List (S → Prop)} {Δ' : Ctx K S} (h : DT K X Δ e ms cs Δ1 f tx) (e1 : cs = c') (e2 : Δ1 = Δ') (e3 : f = f') : DT K X Δ e ms c' Δ' f' tx := e1 ▸ e2 ▸ e3 ▸ h
theorem Join.refl {h : S → Bool} : ∀ {Δ : Ctx K S}, Join h Δ Δ Δ
  | [] => .nil
  | _ :: _ => .same Join.refl
/-- a block that is not reached -/
theorem DN.dead : DN K X mus Δ sts [fun _ => False] Δ1 := by
  exact ⟨fun _ _ _ => False, ⟨fun _ _ _ _ _ _ h => h.elim⟩, fun s F H σ hh sm hc D q => hc.1.elim⟩
/-- if c: raise .. , where c is false -/
theorem DS.guard {h : S → Bool} {sa : List Stmt} (hc : DT K X Δ c ms c1 Δ1 h tx) (hm : OwnAll Δ ms) : DS K X mus Δ (.If c sa [] pos) (c1 ++ [fun s => h s = true → False]) Δ1 :=
  DS.ite hc hm DN.dead DN.nil Join.refl
/-! #### powers -/
def CPowX (i j : Int) : Prop := 0 ≤ j ∧ (Builtin.Int.intBits i : Int) * j ≤ 2 ^ 27
theorem op_powX : OpR X (binaryOp .Pow) (rI CPowX fun i j => .int (i ^ j.toNat)) := opI fun _ _ _ _ _ _ _ hc q => pow_int hc.1 hc.2 q
theorem DX.pow {fa fb : S → Int} (ha : DX K X Δ a (tInt K) m1 c1 Δ1 fa ta) (hb : DX K X Δ1 b (tInt K) m2 c2 Δ2 fb tb) : DX K X Δ (.BinOp a .Pow b pos) (tInt K) (m1 ++ m2) (c1 ++ (c2 ++ [fun s => CPowX (fa s) (fb s)])) Δ2 (fun s => fa s ^ (fb s).toNat) (tOp (rI CPowX fun i j => .int (i ^ j.toNat)) ta tb) :=
  DX.bin (τ := tInt K) (cc := [CPowX]) (g := fun (x y : Int) => x ^ y.toNat) (r2_I fun _ _ _ => rfl) ha hb fun p q => pe_op op_powX p q
/-! #### chains of ints -/
theorem chain_sem {P P' : Int → Int → Bool} {fa fb fc : S → Int} (ha : DX K X Δ a (tInt K) m1 c1 Δ1 fa ta) (hb : DX K X Δ1 b (tInt K) m2 c2 Δ2 fb tb) (hc : DX K X Δ2 c (tInt K) [] c3 Δ2 fc tc) :
    ∀ s F H σ, Holds Δ s F H σ → Same F H → Conj (c1 ++ (c2 ++ guardT (fun s => P (fa s) (fb s)) c3)) s → ∀ Q : VK, (∀ F' H', Gr (MsAt (m1 ++ m2) σ) F H F' H' → Holds Δ2 s F' H' σ → Q (.bl (P (fa s) (fb s) && P' (fb s) (fc s))) H') → tChain (rI0 fun i j => .bl (P i j)) (rI0 fun i j => .bl (P' i j)) ta tb tc σ H Q := by
  obtain ⟨d1, p1, r1⟩ := ha
  obtain ⟨d2, p2, r2⟩ := hb
  obtain ⟨d3, p3, r3⟩ := hc
  intro s F H σ hh sm hcs Q q
  obtain ⟨k1, k2⟩ := conj_app hcs
  obtain ⟨k2, k3⟩ := conj_app k2
  refine r1 s F H σ hh sm k1 _ fun v F1 H1 g1 hh1 e1 => r2 s F1 H1 σ hh1 g1.fh k2 _ fun w F2 H2 g2 hh2 e2 => ⟨fa s, fb s, e1, e2, P (fa s) (fb s), rfl, ?_⟩
  have g12 := (g1.mono (msAt_l (m2 := m2))).trans (g2.mono (msAt_r (m1 := m1)))
  cases e : P (fa s) (fb s) with
  | false =>
    rw [if_neg (by decide)]
    have := q F2 H2 g12 hh2
    rw [e] at this
    exact this
  | true =>
    rw [if_pos rfl]
    refine r3 s F2 H2 σ hh2 g2.fh (guardT_conj (g := fun s => P (fa s) (fb s)) e k3) _ fun z F3 H3 g3 hh3 e3 => ⟨fb s, fc s, e2, e3, ?_⟩
    rw [msAt_nil] at g3
    have := q F3 H3 (g12.trans g3.of0) hh3
    rw [e] at this
    exact this
theorem DX.chain {o o' : CmpOp} {P P' : Int → Int → Bool} {fa fb fc : S → Int} (ho : OpR X (compareOp o) (rI0 fun i j => .bl (P i j))) (ho' : OpR X (compareOp o') (rI0 fun i j => .bl (P' i j))) (ha : DX K X Δ a (tInt K) m1 c1 Δ1 fa ta) (hb : DX K X Δ1 b (tInt K) m2 c2 Δ2 fb tb) (hc : DX K X Δ2 c (tInt K) [] c3 Δ2 fc tc) (hm : lastMarks [o, o'] [b, c] = false := by with_unfolding_all rfl) :
    DX K X Δ (.Compare a [o, o'] [b, c] pos) (tBool K) (m1 ++ m2) (c1 ++ (c2 ++ guardT (fun s => P (fa s) (fb s)) c3)) Δ2 (fun s => P (fa s) (fb s) && P' (fb s) (fc s)) (tChain (rI0 fun i j => .bl (P i j)) (rI0 fun i j => .bl (P' i j)) ta tb tc) :=
  ⟨ha.1.trans hb.1, pe_chain ho ho' ha.2.1 hb.2.1 hc.2.1 hm, fun s F H σ hh sm hcs Q q => chain_sem ha hb hc s F H σ hh sm hcs Q fun F1 H1 g1 hh1 => q _ F1 H1 g1 hh1 rfl⟩
theorem DT.chain {o o' : CmpOp} {P P' : Int → Int → Bool} {fa fb fc : S → Int} (ho : OpR X (compareOp o) (rI0 fun i j => .bl (P i j))) (ho' : OpR X (compareOp o') (rI0 fun i j => .bl (P' i j))) (ha : DX K X Δ a (tInt K) m1 c1 Δ1 fa ta) (hb : DX K X Δ1 b (tInt K) m2 c2 Δ2 fb tb) (hc : DX K X Δ2 c (tInt K) [] c3 Δ2 fc tc) (hm : lastMarks [o, o'] [b, c] = false := by with_unfolding_all rfl) :
    DT K X Δ (.Compare a [o, o'] [b, c] pos) (m1 ++ m2) (c1 ++ (c2 ++ guardT (fun s => P (fa s) (fb s)) c3)) Δ2 (fun s => P (fa s) (fb s) && P' (fb s) (fc s)) (tTest (tChain (rI0 fun i j => .bl (P i j)) (rI0 fun i j => .bl (P' i j)) ta tb tc)) :=
  ⟨ha.1.trans hb.1, pt_chain ho ho' ha.2.1 hb.2.1 hc.2.1 hm, fun s F H σ hh sm hcs Q q => chain_sem ha hb hc s F H σ hh sm hcs _ fun F1 H1 g1 hh1 => ⟨_, rfl, q F1 H1 g1 hh1⟩⟩
def pLe (i j : Int) : Bool := decide (i ≤ j)
theorem ch_le : OpR X (compareOp .LtE) (rI0 fun i j => .bl (pLe i j)) := op_le
/-! #### isinstance of data whose type is known -/
def KindOf (τ : Ty K) (T : String) : Prop := ∀ F H v x, Same F H → τ.rep F v x → TyX K H v (.type T)
theorem kind_int : KindOf (tInt K) "int" := fun F H v x sm r => by rw [show v = .int x from r]; exact .base (.int x)
theorem kind_list {τ : Ty K} : KindOf (tList τ) "list" := fun F H v x sm ⟨a, vs, e, q, _⟩ => by rw [e]; exact .base (.lst (sm _ _ q))
theorem kind_tup {ts : List (Ty K)} : KindOf (tTp ts) "tuple" := fun F H v x sm ⟨a, vs, e, q, _⟩ => by rw [e]; exact .base (.tup (sm _ _ q))
theorem DX.isi {T T2 : String} {r : Bool} {y : Str} {f : S → τ.α} {py : Pos} (he : DX K X Δ e τ ms c1 Δ1 f ta) (hk : KindOf τ T) (hb : kitB T T2 = some r) (hm : X.mg "isinstance" = none) (hm2 : X.mg y = none) (hv2 : bootBuiltins y = some (.type T2)) (hn2 : y ≠ "__name__" := by decide) (hd2 : (y == ("__debug__" : Str)) = false := by decide) (hK : X.K = K := by rfl) (hg : Gl X "isinstance" := by rfl) (hg2 : Gl X y := by rfl)
    (hs : starEach [e, .Name y py] X.env = (false, eval e X.env) :: starEach [.Name y py] X.env := by rfl) (hs2 : starEach [.Name y py] X.env = (false, eval (.Name y py) X.env) :: starEach [] X.env := by rfl) (hpl : (backTo pos (starEach [.Name y py] X.env)).any (·.1) = false := by rfl) :
    DX K X Δ (.Call (.Name "isinstance" px) [e, .Name y py] [] pos) (tBool K) ms c1 Δ1 (fun _ => r) (tCB (rIsi K) (tCons ta (tCons (tC (.ty T2)) tNil))) := by
  subst hK
  obtain ⟨d, p, q1⟩ := he
  refine ⟨d, pe_callB call_isi hg hm (by decide +kernel) (pa_cons p (pa_cons (pe_bltn hg2 hm2 hv2 rfl hn2 hd2) pa_nil hs2) hs) (by decide) (by decide) hs hpl, fun s F H σ hh sm hc Q q => ?_⟩
  exact q1 s F H σ hh sm hc _ fun v F1 H1 g1 hh1 r1 => ⟨v, .ty T2, .type T, .type T2, r, rfl, .ty T2, hk F1 H1 v _ g1.fh r1, kit_ty hb, q _ F1 H1 g1 hh1 rfl⟩
/-! #### all, any -/
theorem paired_bls : ∀ {vs : List V} {bs : List Bool}, Paired (fun v x => v = V.bl x) vs bs → vs = bs.map V.bl
  | _, _, .nil => rfl
  | _, _, .cons r t => by rw [r, paired_bls t]; rfl
theorem DX.all {f : S → List Bool} (hm : X.mg "all" = none) (he : DX K X Δ e (tList (tBool K)) ms c1 Δ1 f ta) (hK : X.K = K := by rfl) (hcm : X.calm = true := by rfl) (hg : Gl X "all" := by rfl) (hs : starEach [e] X.env = (false, eval e X.env) :: starEach [] X.env := by rfl) (hpl : (backTo pos (starEach [] X.env)).any (·.1) = false := by rfl) :
    DX K X Δ (.Call (.Name "all" px) [e] [] pos) (tBool K) ms (c1 ++ []) Δ1 (fun s => (f s).all id) (tCB (rAll K) (tCons ta tNil)) := by
  subst hK
  exact DX.call1 (τ1 := tBool X.K) (cc := []) (g := fun (x : List Bool) => x.all id) (cr_all hcm) (fun v x F H sm r _ Q q => by
    obtain ⟨a, vs, ev, sq, pr, _⟩ := r
    exact ⟨a, x, by rw [ev], by rw [← paired_bls pr]; exact .inl (.inl (sm _ _ sq)), q _ F H (Gr.refl sm) rfl⟩) hm (by decide +kernel) he hg (by decide) (by decide) hs hpl
theorem DX.any {f : S → List Bool} (hm : X.mg "any" = none) (he : DX K X Δ e (tList (tBool K)) ms c1 Δ1 f ta) (hK : X.K = K := by rfl) (hcm : X.calm = true := by rfl) (hg : Gl X "any" := by rfl) (hs : starEach [e] X.env = (false, eval e X.env) :: starEach [] X.env := by rfl) (hpl : (backTo pos (starEach [] X.env)).any (·.1) = false := by rfl) :
    DX K X Δ (.Call (.Name "any" px) [e] [] pos) (tBool K) ms (c1 ++ []) Δ1 (fun s => (f s).any id) (tCB (rAny K) (tCons ta tNil)) := by
  subst hK
  exact DX.call1 (τ1 := tBool X.K) (cc := []) (g := fun (x : List Bool) => x.any id) (cr_any hcm) (fun v x F H sm r _ Q q => by
    obtain ⟨a, vs, ev, sq, pr, _⟩ := r
    exact ⟨a, x, by rw [ev], by rw [← paired_bls pr]; exact .inl (.inl (sm _ _ sq)), q _ F H (Gr.refl sm) rfl⟩) hm (by decide +kernel) he hg (by decide) (by decide) hs hpl
/-! #### effects in one branch -/
theorem DX.iteE (i : Nat) {f : S → Bool} {ga gb : S → τ.α} {f0 f1 f2 : S → ω.τ.α} (hc : DT K X Δ c m1 c1 Δ1 f tz) (h0 : Δ1[i]? = some (.ow ω f0)) (ha : DX K X Δ1 a τ m2 c2 Δa ga ta) (hb : DX K X Δ1 b τ m3 c3 Δb gb tb) (ea : Δa = Δ1.set i (.ow ω f1)) (eb : Δb = Δ1.set i (.ow ω f2)) (h2 : ∀ k ∈ m2, k = i) (h3 : ∀ k ∈ m3, k = i) :
    DX K X Δ (.IfExp c a b pos) τ (m1 ++ [i]) (c1 ++ (guardT f c2 ++ guardF f c3)) (Δ1.set i (.ow ω fun s => if f s = true then f1 s else f2 s)) (fun s => if f s = true then ga s else gb s) (tIf tz ta tb) := by
  subst ea eb
  obtain ⟨d1, p1, r1⟩ := hc
  obtain ⟨d2, p2, r2⟩ := ha
  obtain ⟨d3, p3, r3⟩ := hb
  have hl : i < Δ1.length := (List.getElem?_eq_some_iff.mp h0).1
  have as_ : ∀ {s : S} {g : S → ω.τ.α} {F H : Hp} {σ : L2.St}, (if f s = true then f1 s else f2 s) = g s → Holds (Δ1.set i (.ow ω g)) s F H σ → Holds (Δ1.set i (.ow ω fun s => if f s = true then f1 s else f2 s)) s F H σ := fun {s g F H σ} e hh => by
    refine ⟨by rw [List.length_set, hh.len, List.length_set], fun j sl o e1 e2 => ?_, fun j k ω1 ω2 g1 g2 p n e1 e2 e3 => ?_⟩
    · rcases get_set1 e1 with ⟨rfl, rfl, _⟩ | ⟨n, e1⟩
      · obtain ⟨p, u, w1, w2, w3, w4⟩ := hh.at_ i _ o (List.getElem?_set_self hl) e2
        exact ⟨p, u, w1, w2, w3, by show ω.own F u (if f s = true then f1 s else f2 s); rw [e]; exact w4⟩
      · exact hh.at_ j sl o (by rw [List.getElem?_set_ne n]; exact e1) e2
    · have up : ∀ {j : Nat} {ω1 : OTy K} {g1 : S → ω1.τ.α}, (Δ1.set i (.ow ω fun s => if f s = true then f1 s else f2 s))[j]? = some (.ow ω1 g1) → ∃ (ω1' : OTy K) (g1' : S → ω1'.τ.α), (Δ1.set i (.ow ω g))[j]? = some (.ow ω1' g1') := fun {j ω1 g1} e => by
        rcases get_set1 e with ⟨rfl, _, _⟩ | ⟨n, e⟩
        · exact ⟨_, _, List.getElem?_set_self hl⟩
        · exact ⟨_, _, by rw [List.getElem?_set_ne n]; exact e⟩
      obtain ⟨_, _, q1⟩ := up e1
      obtain ⟨_, _, q2⟩ := up e2
      exact hh.sep j k _ _ _ _ p n q1 q2 e3
  have mm : ∀ {m : List Nat} {σ : L2.St}, (∀ k ∈ m, k = i) → ∀ a, MsAt m σ a → MsAt [i] σ a := fun h a ⟨k, hk, e⟩ => ⟨i, List.mem_singleton.mpr rfl, h k hk ▸ e⟩
  refine ⟨d1.trans (diff_mut h0), pe_ifExp p1 p2 p3, fun s F H σ hh sm hcs Q q => ?_⟩
  obtain ⟨k1, k2⟩ := conj_app hcs
  obtain ⟨k2, k3⟩ := conj_app k2
  refine r1 s F H σ hh sm k1 _ fun F1 H1 g1 hh1 => ?_
  have go : ∀ {F2 H2 : Hp}, Gr (MsAt [i] σ) F1 H1 F2 H2 → Gr (MsAt (m1 ++ [i]) σ) F H F2 H2 := fun g => (g1.mono (msAt_l (m2 := [i]))).trans (g.mono (msAt_r (m1 := m1)))
  cases e : f s with
  | true =>
    show ta σ H1 Q
    refine r2 s F1 H1 σ hh1 g1.fh (guardT_conj e k2) _ fun v F2 H2 g2 hh2 rv => ?_
    refine q v F2 H2 (go (g2.mono (mm h2))) (as_ (g := f1) (by rw [e]; rfl) hh2) ?_
    simp only [e, if_true]
    exact rv
  | false =>
    show tb σ H1 Q
    refine r3 s F1 H1 σ hh1 g1.fh (guardF_conj e k3) _ fun v F2 H2 g2 hh2 rv => ?_
    refine q v F2 H2 (go (g2.mono (mm h3))) (as_ (g := f2) (by rw [e]; rfl) hh2) ?_
    simp only [e, Bool.false_eq_true, if_false]
    exact rv
/-! #### is of bools -/
/-- len of a tuple -/
theorem DX.lenT {f : S → HL ts} (hm : X.mg "len" = none) (he : DX K X Δ e (tTp ts) ms c1 Δ1 f ta) (hK : X.K = K := by rfl) (hg : Gl X "len" := by rfl) (hs : starEach [e] X.env = (false, eval e X.env) :: starEach [] X.env := by rfl) (hpl : (backTo pos (starEach [] X.env)).any (·.1) = false := by rfl) :
    DX K X Δ (.Call (.Name "len" px) [e] [] pos) (tInt K) ms (c1 ++ []) Δ1 (fun _ => (ts.length : Int)) (tCB (fun xs H Q => ∃ p ys, xs = [.ref p] ∧ (SqL K H p ys ∨ SqT K H p ys) ∧ Q (.int ys.length) H) (tCons ta tNil)) := by
  subst hK
  exact DX.call1 (τ1 := tInt X.K) (cc := []) (g := fun _ => (ts.length : Int)) call_len_seq (fun v x F H sm r _ Q q => by
    obtain ⟨a, vs, ev, sq, pr⟩ := r
    exact ⟨a, vs, by rw [ev], .inr (.inl (.inl (sm _ _ sq))), q _ F H (Gr.refl sm) (by rw [pr.length])⟩) hm PySem.boot_len he hg (by decide) (by decide) hs hpl
end
end Dx

/-! Dx, part L: small words of the printed text. -/
namespace Dx
open PySem PySem.Spec PyProof.Rows L2
section
variable {K : PySem.W.Frag} {X : Cx} {S : Type} {Δ Δ1 : Ctx K S} {mus ms : List Nat} {e : Expr} {τ : Ty K} {ω : OTy K} {cs : List (S → Prop)} {ta : TE} {tx : TT}
theorem DN.fin (e : Δ = Δ1) : DN K X mus Δ [] [] Δ1 := e ▸ DN.nil
theorem DX.pu {f : S → τ.α} (h : DX K X Δ e τ ms cs Δ1 f ta) (e1 : ms = []) (e2 : Δ1 = Δ) : DX K X Δ e τ [] cs Δ f ta := by
  subst e1 e2
  exact h
theorem DT.pu {f : S → Bool} (h : DT K X Δ e ms cs Δ1 f tx) (e1 : ms = []) (e2 : Δ1 = Δ) : DT K X Δ e [] cs Δ f tx := by
  subst e1 e2
  exact h
theorem DW.pu {f : S → Bool} (h : DW K X Δ e ms cs Δ1 f tx) (e1 : ms = []) (e2 : Δ1 = Δ) : DW K X Δ e [] cs Δ f tx := by
  subst e1 e2
  exact h
theorem DO.pu {f : S → ω.τ.α} (h : DO K X Δ e ω ms cs Δ1 f ta) (e1 : ms = []) (e2 : Δ1 = Δ) : DO K X Δ e ω [] cs Δ f ta := by
  subst e1 e2
  exact h
theorem DX.ofL {f : S → List τ.α} (h : DO K X Δ e (oList τ) ms cs Δ1 f ta) : DX K X Δ e (tList τ) ms cs Δ1 f ta := DX.ofO h
theorem DI.conv {tg iter : Expr} {wi : TI} {f f' : S → List τ.α} {c' : List (S → Prop)} {Δ' : Ctx K S} (h : DI K X Δ tg iter τ ms cs Δ1 f wi) (e1 : cs = c') (e2 : Δ1 = Δ') (e3 : f = f') : DI K X Δ tg iter τ ms c' Δ' f' wi := e1 ▸ e2 ▸ e3 ▸ h
theorem n64 {n m : Nat} (h : n = m) (hm : m ≤ 64 := by decide) : n ≤ 64 := h ▸ hm
theorem nd1 {j : Nat} : List.Nodup [j] := List.nodup_cons.mpr ⟨List.not_mem_nil, List.nodup_nil⟩
end
/-- what need not be looked into -/
@[irreducible] def hide {α : Type} (x : α) : α := x
theorem hide_eq {α : Type} (x : α) : hide x = x := by unfold hide; rfl
@[irreducible] def LoopF {M α : Type} (step : M → α → M) (xs : List α) (m : M) : M := loopF step xs m
@[irreducible] def LoopR {M α R : Type} (r : M → α → Option R) (step : M → α → M) (xs : List α) (m : M) : Option R := loopR r step xs m
theorem LoopF_eq {M α : Type} (step : M → α → M) (xs : List α) (m : M) : LoopF step xs m = loopF step xs m := by unfold LoopF; rfl
theorem LoopR_eq {M α R : Type} (r : M → α → Option R) (step : M → α → M) (xs : List α) (m : M) : LoopR r step xs m = loopR r step xs m := by unfold LoopR; rfl
section
variable {K : PySem.W.Frag} {X : Cx} {S M R : Type} {fm : Fm K R} {Δ Δ1 : Ctx K S} {Δl : Ctx K (S × M)} {body : List Stmt} {tg iter : Expr} {pos : Pos} {τ : Ty K} {Δb Δe : Ctx K ((S × M) × τ.α)} {mus ms is : List Nat} {c1 : List (S → Prop)} {cb : List ((S × M) × τ.α → Prop)} {wi : TI} {g : TG} {fx : S → List τ.α} {init : S → M} {step : (S × M) × τ.α → M}
theorem DS.forH (hi : DI K X Δ tg iter τ ms c1 Δ1 fx wi) (hm : OwnAll Δ ms) (h0 : Head init Δ1 Δl) (hg : DG K X (Δl.comap Prod.fst) tg τ Prod.snd is Δb g) (his : ∀ j ∈ is, j ∉ mus) (hb : DN K X mus Δb body cb Δe) (hk : Back step Δe Δl)
    (hp : PassesOwn (model X.prog X.w) X.A X.env X.xe := by exact PassesOwn.never) (hc : X.calm = true := by rfl) (hs : ∀ x, foldedSetIterable iter X.env x = pure x := by intro _; rfl) :
    DS K X mus Δ (.For tg iter body [] pos) (c1 ++ [fun s => loopC (fun m x => Conj cb ((s, m), x)) (fun m x => step ((s, m), x)) (fx s) (init s)]) (Δl.comap fun s => (s, LoopF (fun m x => step ((s, m), x)) (fx s) (init s))) := by
  rw [show (fun s => (s, LoopF (fun m x => step ((s, m), x)) (fx s) (init s))) = fun s => (s, loopF (fun m x => step ((s, m), x)) (fx s) (init s)) from funext fun s => by rw [LoopF_eq]]
  exact DS.for_ hi hm h0 hg his hb hk hp hc hs
theorem DSm.forH {r : (S × M) × τ.α → Option R} (hi : DI K X Δ tg iter τ ms c1 Δ1 fx wi) (hm : OwnAll Δ ms) (h0 : Head init Δ1 Δl) (hg : DG K X (Δl.comap Prod.fst) tg τ Prod.snd is Δb g) (his : ∀ j ∈ is, j ∉ musOf 0 fm.ps) (hb : DM K X fm Δb body cb r Δe) (hk : Back step Δe Δl)
    (hp : PassesOwn (model X.prog X.w) X.A X.env X.xe := by exact PassesOwn.never) (hc : X.calm = true := by rfl) (hs : ∀ x, foldedSetIterable iter X.env x = pure x := by intro _; rfl) :
    DSm K X fm Δ (.For tg iter body [] pos) (c1 ++ [fun s => loopCr (fun m x => Conj cb ((s, m), x)) (fun m x => r ((s, m), x)) (fun m x => step ((s, m), x)) (fx s) (init s)]) (fun s => LoopR (fun m x => r ((s, m), x)) (fun m x => step ((s, m), x)) (fx s) (init s)) (Δl.comap fun s => (s, LoopF (fun m x => step ((s, m), x)) (fx s) (init s))) := by
  rw [show (fun s => (s, LoopF (fun m x => step ((s, m), x)) (fx s) (init s))) = fun s => (s, loopF (fun m x => step ((s, m), x)) (fx s) (init s)) from funext fun s => by rw [LoopF_eq], show (fun s => LoopR (fun m x => r ((s, m), x)) (fun m x => step ((s, m), x)) (fx s) (init s)) = fun s => loopR (fun m x => r ((s, m), x)) (fun m x => step ((s, m), x)) (fx s) (init s) from funext fun s => by rw [LoopR_eq]]
  exact DSm.for_ hi hm h0 hg his hb hk hp hc hs
end
end Dx

/-! Dx, part M: a new object handed to a def that changes it; pop; the script compared. -/
namespace Dx
open PySem PySem.Spec PyProof.Rows L2
section
variable {K : PySem.W.Frag} {X : Cx} {S R R' : Type} {Δ Δ1 Δ2 Δ3 : Ctx K S} {e a b : Expr} {es : List Expr} {pos p' px apos : Pos} {τ : Ty K} {ω : OTy K} {ms m1 m2 l2 : List Nat} {c1 c2 cs : List (S → Prop)} {ta tb : TE} {tl : TA} {i j : Nat} {x : Str} {fm : Fm K R'} {s : S} {F H F1 H1 : Hp} {σ : L2.St} {as : List (AK K S)} {h : S → ω.τ.α} {sl : Slot K S}
/-- arguments among which is one new object: it stands behind the frame -/
def DAn (K : PySem.W.Frag) (X : Cx) (Δ : Ctx K S) (es : List Expr) (ω : OTy K) (ms : List Nat) (cs : List (S → Prop)) (Δ1 : Ctx K S) (h : S → ω.τ.α) (as : List (AK K S)) (t : TA) : Prop :=
  Diff ms Δ Δ1 ∧ PA X es t ∧ ∀ s F H σ, Holds Δ s F H σ → Same F H → Conj cs s → ∀ Q : List V → Hp → Prop, (∀ vs p u F' H', Gr (MsAt ms σ) F H F' H' → Holds Δ1 s F' H' σ → H p = none → F' p = none → H' p = some u → ω.own F' u (h s) → AkAll F' (σ ++ [some (.ref p)]) s as vs → Q vs H') → t σ H Q
theorem ak_ext {o : Option V} : ∀ {a : AK K S} {v : V}, AkRep F σ s a v → AkRep F (σ ++ [o]) s a v
  | .fz τ f, _, r => r
  | .mu j, v, r => by
    have r' : σ[j]? = some (some v) := r
    show (σ ++ [o])[j]? = some (some v)
    rw [List.getElem?_append_left (List.getElem?_eq_some_iff.mp r').1]
    exact r'
theorem akAll_ext {o : Option V} : ∀ {as : List (AK K S)} {vs : List V}, AkAll F σ s as vs → AkAll F (σ ++ [o]) s as vs
  | [], _, r => r
  | _ :: _, _, ⟨v, r, e, r1, r2⟩ => ⟨v, r, e, ak_ext r1, akAll_ext r2⟩
theorem DAn.here (he : DO K X Δ e ω m1 c1 Δ1 h ta) (hb : DA K X Δ1 es m2 c2 Δ2 as tl) (hm2 : OwnAll Δ1 m2) (n : Nat) (hn : Δ.length = n) (hs : starEach (e :: es) X.env = (false, eval e X.env) :: starEach es X.env := by rfl) : DAn K X Δ (e :: es) ω (m1 ++ m2) (c1 ++ c2) Δ2 h (.mu n :: as) (tCons ta tl) := by
  subst hn
  obtain ⟨d1, pa, ra⟩ := he
  obtain ⟨d2, pb, rb⟩ := hb
  refine ⟨d1.trans d2, pa_cons pa pb hs, fun s F H σ hh sm hc Q q => ?_⟩
  obtain ⟨k1, k2⟩ := conj_app hc
  refine ra s F H σ hh sm k1 _ fun p u F1 H1 g1 hh1 n1 n2 e1 o1 => ?_
  refine rb s F1 H1 σ hh1 g1.fh k2 _ fun vs F2 H2 g2 hh2 r2 => ?_
  have nm : ¬ MsAt m2 σ p := fun ⟨k, hk, ek⟩ => by
    obtain ⟨ω', f', h'⟩ := hm2.all k hk
    exact (d1.was hh h' ek).2 n1
  refine q _ p u F2 H2 ((g1.mono (msAt_l (m2 := m2))).trans (g2.mono (msAt_r (m1 := m1)))) hh2 n1 ?_ (g2.keep _ _ e1 nm) (ω.mono g2.ff o1) ⟨.ref p, vs, rfl, ?_, akAll_ext r2⟩
  · cases y : F2 p with
    | none => rfl
    | some o' =>
      rcases g2.fresh p o' y with z | z
      · rw [n2] at z; cases z
      · rw [e1] at z; cases z
  · show (σ ++ [some (.ref p)])[Δ.length]? = some (some (.ref p))
    rw [← hh.len, List.getElem?_append_right (Nat.le_refl _), Nat.sub_self]
    rfl
theorem DAn.cons {f : S → τ.α} (ha : DX K X Δ e τ m1 c1 Δ1 f ta) (hb : DAn K X Δ1 es ω m2 c2 Δ2 h as tl) (hs : starEach (e :: es) X.env = (false, eval e X.env) :: starEach es X.env := by rfl) : DAn K X Δ (e :: es) ω (m1 ++ m2) (c1 ++ c2) Δ2 h (.fz τ f :: as) (tCons ta tl) := by
  obtain ⟨d1, pa, ra⟩ := ha
  obtain ⟨d2, pb, rb⟩ := hb
  refine ⟨d1.trans d2, pa_cons pa pb hs, fun s F H σ hh sm hc Q q => ?_⟩
  obtain ⟨k1, k2⟩ := conj_app hc
  refine ra s F H σ hh sm k1 _ fun v F1 H1 g1 hh1 r1 => ?_
  refine rb s F1 H1 σ hh1 g1.fh k2 _ fun vs p u F2 H2 g2 hh2 n1 n2 e1 o1 r2 => ?_
  exact q _ p u F2 H2 ((g1.mono (msAt_l (m2 := m2))).trans (g2.mono (msAt_r (m1 := m1)))) hh2 (g1.dom p n1) n2 e1 o1 ⟨v, vs, rfl, τ.mono g2.ff r1, r2⟩
/-- a list of ints, compared with the script -/
theorem scr_of_list {F : Hp} {v : V} {xs : List Int} (r : (tList (tInt K)).rep F v xs) : (tScr K).rep F v xs := by
  obtain ⟨a, vs, e, q, pr, z⟩ := r
  have ev : ∀ {vs : List V} {xs : List Int}, Paired (fun v x => v = V.int x) vs xs → vs = xs.map V.int := by
    intro vs xs h
    induction h with
    | nil => rfl
    | cons r _ ih => rw [r, ih]; rfl
  exact ⟨a, e, by rw [← ev pr]; exact .inl (.inl q), z⟩
theorem DX.scrL {f : S → List Int} (h : DX K X Δ e (tList (tInt K)) ms cs Δ1 f ta) : DX K X Δ e (tScr K) ms cs Δ1 f ta :=
  ⟨h.1, h.2.1, fun s F H σ hh sm hc Q q => h.2.2 s F H σ hh sm hc Q fun v F1 H1 g hh1 r => q v F1 H1 g hh1 (scr_of_list r)⟩
/-- x.pop(e) -/
def eraseI {α : Type} (xs : List α) (i : Int) : List α := xs.eraseIdx (if 0 ≤ i then i.toNat else (i + xs.length).toNat)
end
end Dx

/-! Dx, part N: x[lo:hi] = e; effects behind and, or. -/
namespace Dx
open PySem PySem.Spec PyProof PyProof.Rows L2
section
variable {prog : Program} {w : World} {A : Around} {E : Value → Shared → Prop} {s : Shared}
end
/-- the list behind x[lo:hi] = ys -/
def putL {α : Type} (xs : List α) (lo hi : Option Int) (ys : List α) : List α := xs.take (HT.sIx xs.length 0 lo) ++ ys ++ xs.drop (max (HT.sIx xs.length 0 lo) (HT.sIx xs.length xs.length hi))
section
variable {X : Cx}
end
section
variable {X : Cx} {o : Expr} {lo hi : Option Expr} {to : TE} {tl th : TO} {p2 pos : Pos}
end
section
variable {K : PySem.W.Frag} {X : Cx} {S : Type} {Δ Δ1 Δ2 Δ3 : Ctx K S} {e a b c : Expr} {lo hi : Option Expr} {pos p' px p2 : Pos} {τ : Ty K} {ω : OTy K} {mus ms m1 m2 m3 : List Nat} {c1 c2 c3 cs : List (S → Prop)} {ta tb : TE} {tx ty : TT} {tlo thi : TO} {i : Nat} {x : Str} {rest : List Expr}
/-! #### effects behind and, or -/
end
end Dx

/-! Dx, part O: extend, reverse, clear, count, in, sum, sorted, list, slices with a step, calls by keyword. -/
namespace Dx
open PySem PySem.Spec PyProof PyProof.Rows L2
section
variable {K : PySem.W.Frag} {X : Cx} {S R R' : Type} {Δ Δ1 Δ2 Δ3 : Ctx K S} {e a b : Expr} {es : List Expr} {pos p' px apos : Pos} {τ τ1 τ2 L L1 L2' : Ty K} {ω : OTy K} {ms m1 m2 m3 : List Nat} {c1 c2 c3 cs : List (S → Prop)} {ta tb : TE} {tl : TA} {i j : Nat} {x : Str} {fm : Fm K R'}
/-- x.extend(e) -/
theorem DX.extend {f fe : S → List τ.α} (he : DX K X Δ e (tList τ) ms c1 Δ1 fe ta) {f0 : S → List τ.α} (h0 : Δ[i]? = some (.ow (oList τ) f0)) (h : Δ1[i]? = some (.ow (oList τ) f)) (hN : X.N[i]? = some x := by rfl) (hv : Vis X.env.scope x := by first | exact Or.inl rfl | exact Or.inr (Or.inl rfl) | exact Or.inr (Or.inr rfl)) (hd : (x == ("__debug__" : Str)) = false := by decide)
    (hcd : (x == ("__classdict__" : Str)) = false := by decide) (hbase : attributeBase (.Name x px) "extend" X.env (eval (.Name x px) X.env) = eval (.Name x px) X.env := by rfl)
    (hfew : ((backTo pos (starEach [e] X.env)).all (fun x => !x.1) && (backToKw pos (keywordEach [] X.env)).all (fun x => x.1.isSome)
      && decide ([e].length + ([] : List Keyword).length + (if ([] : List Keyword).isEmpty then 0 else 1) < 30)) = true := by rfl)
    (hline : (apos.endLine == pos.line) = true := by rfl) (hs : starEach [e] X.env = (false, eval e X.env) :: starEach [] X.env := by rfl) (hplain : (backTo pos (starEach [] X.env)).any (·.1) = false := by rfl) (hK : X.K = K := by rfl) :
    DX K X Δ (.Call (.Attribute (.Name x px) "extend" apos) [e] [] pos) (tNone K) (ms ++ [i]) (c1 ++ [fun s => (f s).length + (fe s).length ≤ sizeLine]) (Δ1.set i (.ow (oList τ) fun s => f s ++ fe s)) (fun _ => ()) (tBM K "list" rExtend (tVar i) (tCons ta tNil)) := by
  subst hK
  obtain ⟨d1, p, r⟩ := he
  refine ⟨d1.trans (diff_mut h), pe_bm PySem.F.plainAttrs_list PySem.F.slot_list_extend PySem.F.type_list_extend mt_extend (pe_var hN hv hd hcd) (pa_cons p pa_nil hs) hbase hfew hline hs hplain, fun s F H σ hh sm hc Q q => ?_⟩
  obtain ⟨k1, k2, _⟩ := conj_app hc
  obtain ⟨p0, vs0, e1, _, e3, _⟩ := own_list hh h0
  have hl : tyV X.K "list" (.ref p0) H := .inl ⟨rfl, _, .inl (.inl e3)⟩
  refine ⟨.ref p0, e1, hl, r s F H σ hh sm k1 _ fun v F1 H1 g1 hh1 ⟨b1, ys, ev, eb, w1, w2⟩ => ?_⟩
  obtain ⟨p1, vs, f1, f2, f3, f4, f5⟩ := own_list hh1 h
  rw [e1] at f1; cases f1
  refine ⟨p0, b1, vs, ys, rfl, by rw [ev], f3, g1.fh _ _ eb, by rw [f4.length, w1.length]; exact k2, ?_⟩
  have g2 := gr_mut (i := i) (u' := .lst (vs ++ ys)) g1.fh f2 (by rw [f3]; exact fun z => nomatch z) e1
  refine q _ F1 _ ((g1.mono (msAt_l (m2 := [i]))).trans (g2.mono (msAt_r (m1 := ms)))) (hh1.mut h e1 ⟨_, rfl, paired_app f4 w1, ?_⟩) rfl
  rw [List.length_append]
  exact k2
theorem paired_rev {α β : Type} {R : α → β → Prop} : ∀ {xs : List α} {ys : List β}, Paired R xs ys → Paired R xs.reverse ys.reverse
  | _, _, .nil => .nil
  | _, _, .cons r t => by
    rw [List.reverse_cons, List.reverse_cons]
    exact paired_app (paired_rev t) (.cons r .nil)
/-- x.reverse() -/
theorem DX.reverse {f : S → List τ.α} (h : Δ[i]? = some (.ow (oList τ) f)) (hN : X.N[i]? = some x := by rfl) (hv : Vis X.env.scope x := by first | exact Or.inl rfl | exact Or.inr (Or.inl rfl) | exact Or.inr (Or.inr rfl)) (hd : (x == ("__debug__" : Str)) = false := by decide)
    (hcd : (x == ("__classdict__" : Str)) = false := by decide) (hbase : attributeBase (.Name x px) "reverse" X.env (eval (.Name x px) X.env) = eval (.Name x px) X.env := by rfl)
    (hline : (apos.endLine == pos.line) = true := by rfl) (hK : X.K = K := by rfl) :
    DX K X Δ (.Call (.Attribute (.Name x px) "reverse" apos) [] [] pos) (tNone K) [i] [] (Δ.set i (.ow (oList τ) fun s => (f s).reverse)) (fun _ => ()) (tBM0 K "list" rReverse (tVar i)) := by
  subst hK
  refine ⟨diff_mut h, pe_bm0 PySem.F.plainAttrs_list PySem.F.slot_list_reverse PySem.F.type_list_reverse mt_reverse (pe_var hN hv hd hcd) hbase hline, fun s F H σ hh sm hc Q q => ?_⟩
  obtain ⟨p0, vs, e1, e2, e3, e4, e5⟩ := own_list hh h
  have hl : tyV X.K "list" (.ref p0) H := .inl ⟨rfl, _, .inl (.inl e3)⟩
  refine ⟨.ref p0, e1, hl, p0, vs, rfl, rfl, e3, ?_⟩
  have g2 := gr_mut (i := i) (u' := .lst vs.reverse) sm e2 (by rw [e3]; exact fun z => nomatch z) e1
  refine q _ F _ g2 (hh.mut h e1 ⟨_, rfl, paired_rev e4, ?_⟩) rfl
  rw [List.length_reverse]
  exact e5
/-- x.clear() -/
theorem DX.clear {f : S → List τ.α} (h : Δ[i]? = some (.ow (oList τ) f)) (hN : X.N[i]? = some x := by rfl) (hv : Vis X.env.scope x := by first | exact Or.inl rfl | exact Or.inr (Or.inl rfl) | exact Or.inr (Or.inr rfl)) (hd : (x == ("__debug__" : Str)) = false := by decide)
    (hcd : (x == ("__classdict__" : Str)) = false := by decide) (hbase : attributeBase (.Name x px) "clear" X.env (eval (.Name x px) X.env) = eval (.Name x px) X.env := by rfl)
    (hline : (apos.endLine == pos.line) = true := by rfl) (hK : X.K = K := by rfl) :
    DX K X Δ (.Call (.Attribute (.Name x px) "clear" apos) [] [] pos) (tNone K) [i] [] (Δ.set i (.ow (oList τ) fun _ => [])) (fun _ => ()) (tBM0 K "list" rClear (tVar i)) := by
  subst hK
  refine ⟨diff_mut h, pe_bm0 PySem.F.plainAttrs_list PySem.F.slot_list_clear PySem.F.type_list_clear mt_clear (pe_var hN hv hd hcd) hbase hline, fun s F H σ hh sm hc Q q => ?_⟩
  obtain ⟨p0, vs, e1, e2, e3, e4, e5⟩ := own_list hh h
  have hl : tyV X.K "list" (.ref p0) H := .inl ⟨rfl, _, .inl (.inl e3)⟩
  refine ⟨.ref p0, e1, hl, p0, vs, rfl, rfl, e3, ?_⟩
  have g2 := gr_mut (i := i) (u' := .lst []) sm e2 (by rw [e3]; exact fun z => nomatch z) e1
  exact q _ F _ g2 (hh.mut h e1 ⟨[], rfl, .nil, Nat.zero_le _⟩) rfl
theorem paired_ints : ∀ {vs : List V} {xs : List Int}, Paired (fun v x => v = V.int x) vs xs → vs = xs.map V.int
  | _, _, .nil => rfl
  | _, _, .cons r t => by rw [r, paired_ints t]; rfl
theorem paired_intsR : ∀ xs : List Int, Paired (fun v x => v = V.int x) (xs.map V.int) xs
  | [] => .nil
  | x :: xs => .cons rfl (paired_intsR xs)
/-- sum, max, min of a list of ints -/
theorem DX.sum {to : L.α → List Int} {f : S → L.α} (hl : LL L (tInt K) to) (hm : X.mg "sum" = none) (he : DX K X Δ e L ms c1 Δ1 f ta) (hK : X.K = K := by rfl) (hcm : X.calm = true := by rfl) (hg : Gl X "sum" := by rfl) (hs : starEach [e] X.env = (false, eval e X.env) :: starEach [] X.env := by rfl) (hpl : (backTo pos (starEach [] X.env)).any (·.1) = false := by rfl) :
    DX K X Δ (.Call (.Name "sum" px) [e] [] pos) (tInt K) ms (c1 ++ []) Δ1 (fun s => (to (f s)).sum) (tCB (rSum K) (tCons ta tNil)) := by
  subst hK
  exact DX.call1 (τ1 := tInt X.K) (cc := []) (g := fun x => (to x).sum) (cr_sum hcm) (fun v x F H sm r _ Q q => by
    obtain ⟨a, vs, ev, sq, pr, _⟩ := hl r
    have e := paired_ints pr
    subst e
    exact ⟨a, to x, by rw [ev], sm.seq sq, q _ F H (Gr.refl sm) rfl⟩) hm (by decide +kernel) he hg (by decide) (by decide) hs hpl
/-! #### new lists from calls -/
theorem DO.call1 {r : List V → Hp → VK → Prop} {f : S → τ.α} {g : τ.α → ω.τ.α} (hr : ∀ v x F H, Same F H → τ.rep F v x → ∀ Q : VK, (∀ p u, H p = none → ω.own F u (g x) → Q (.ref p) (upd H p u)) → r [v] H Q) (he : DX K X Δ e τ ms c1 Δ1 f ta)
    (hp : PA X [e] (tCons ta tNil) → PE X (.Call (.Name x px) [e] [] pos) (tCB r (tCons ta tNil))) (hs : starEach [e] X.env = (false, eval e X.env) :: starEach [] X.env := by rfl) :
    DO K X Δ (.Call (.Name x px) [e] [] pos) ω ms c1 Δ1 (fun s => g (f s)) (tCB r (tCons ta tNil)) := by
  obtain ⟨d1, p, q1⟩ := he
  refine ⟨d1, hp (pa_cons p pa_nil hs), fun s F H σ hh sm hc Q q => ?_⟩
  refine q1 s F H σ hh sm hc _ fun v F1 H1 g1 hh1 r1 => hr v (f s) F1 H1 g1.fh r1 Q fun p u n o => ?_
  obtain ⟨g3, fn, e3⟩ := own_of_new g1.fh n o
  exact q p u F1 _ (g1.trans g3.of0) (hh1.grow g3) (g1.dom p n) fn e3 o
def sortI (xs : List Int) : List Int := xs.mergeSort (fun a b => decide (a ≤ b))
theorem sortI_perm (xs : List Int) : (sortI xs).Perm xs := List.mergeSort_perm _ _
theorem sortI_pw (xs : List Int) : (sortI xs).Pairwise (· ≤ ·) := by
  have h := List.pairwise_mergeSort (le := fun (a b : Int) => decide (a ≤ b)) (by intro a b c h1 h2; simp at *; omega) (by intro a b; simp; omega) xs
  exact h.imp fun h => by simpa using h
theorem sort_unique : ∀ {xs ys : List Int}, xs.Perm ys → xs.Pairwise (· ≤ ·) → ys.Pairwise (· ≤ ·) → xs = ys := fun p h1 h2 =>
  p.eq_of_pairwise (fun a b _ _ h h' => Int.le_antisymm h h') h1 h2
/-- sorted(e), ints -/
theorem DO.sorted {to : L.α → List Int} {f : S → L.α} (hl : LL L (tInt K) to) (hm : X.mg "sorted" = none) (he : DX K X Δ e L ms c1 Δ1 f ta) (hK : X.K = K := by rfl) (hg : Gl X "sorted" := by rfl) (hs : starEach [e] X.env = (false, eval e X.env) :: starEach [] X.env := by rfl) (hpl : (backTo pos (starEach [] X.env)).any (·.1) = false := by rfl) :
    DO K X Δ (.Call (.Name "sorted" px) [e] [] pos) (oList (tInt K)) ms c1 Δ1 (fun s => sortI (to (f s))) (tCB (rSortedI K) (tCons ta tNil)) := by
  subst hK
  refine DO.call1 (ω := oList (tInt X.K)) (g := fun x => sortI (to x)) (fun v x F H sm r Q q => ?_) he (fun pa => pe_callB cr_sortedI hg hm (by decide +kernel) pa (by decide) (by decide) hs hpl) hs
  obtain ⟨a, vs, ev, sq, pr, z⟩ := hl r
  have e := paired_ints pr
  subst e
  refine ⟨a, to x, by rw [ev], sm.seq sq, fun ns' p h1 h2 n => ?_⟩
  have e2 : ns' = sortI (to x) := sort_unique (h1.trans (sortI_perm _).symm) h2 (sortI_pw _)
  subst e2
  exact q p _ n ⟨_, rfl, paired_intsR _, by rw [(sortI_perm _).length_eq]; exact z⟩
/-- list(e) of a list -/
theorem DO.list {to : L.α → List τ.α} {f : S → L.α} (hl : LL L τ to) (hm : X.mg "list" = none) (he : DX K X Δ e L ms c1 Δ1 f ta) (hK : X.K = K := by rfl) (hg : Gl X "list" := by rfl) (hs : starEach [e] X.env = (false, eval e X.env) :: starEach [] X.env := by rfl) (hpl : (backTo pos (starEach [] X.env)).any (·.1) = false := by rfl) :
    DO K X Δ (.Call (.Name "list" px) [e] [] pos) (oList τ) ms c1 Δ1 (fun s => to (f s)) (tCB (fun xs H Q => ∃ p ys, xs = [.ref p] ∧ (SqL K H p ys ∨ SqT K H p ys) ∧ ∀ l, H l = none → Q (.ref l) (upd H l (.lst ys))) (tCons ta tNil)) := by
  subst hK
  refine DO.call1 (ω := oList τ) (g := fun x => to x) (fun v x F H sm r Q q => ?_) he (fun pa => pe_callTy call_list_of hg hm (by decide +kernel) pa (by decide) (by decide) hs hpl) hs
  obtain ⟨a, vs, ev, sq, pr, z⟩ := hl r
  exact ⟨a, vs, by rw [ev], .inl (sm.seq sq), fun p n => q p _ n ⟨_, rfl, pr, z⟩⟩
/-! #### in, not in, count -/
theorem eqV_int (a b : Int) : eqV (.int a) (.int b) = decide (a = b) := by show (a == b) = _; exact Bool.beq_eq_decide_eq a b
theorem inV_ints (x : Int) : ∀ xs : List Int, inV (.int x) (xs.map V.int) = decide (x ∈ xs)
  | [] => rfl
  | y :: ys => by
    show (eqV (.int y) (.int x) || inV (.int x) (ys.map V.int)) = _
    rw [eqV_int, inV_ints x ys]
    by_cases h : x = y
    · subst h; simp
    · simp [h, Ne.symm h]
theorem flat_ints : ∀ xs : List Int, (xs.map V.int).all flatV = true
  | [] => rfl
  | x :: xs => by rw [List.map_cons, List.all_cons, flat_ints xs]; rfl
theorem r2_inI {neg : Bool} {to : L.α → List Int} (hl : LL L (tInt K) to) : R2ok K (rIn K neg) (tInt K) L (tBool K) [] (fun x xs => if neg then !decide (x ∈ to xs) else decide (x ∈ to xs)) := fun x y v u F H sm r1 r2 _ Q q => by
  obtain ⟨a, vs, ev, sq, pr, _⟩ := hl r2
  have e := paired_ints pr
  subst e
  rw [show v = V.int x from r1, ev]
  exact ⟨a, _, rfl, .inl (sm.seq sq), rfl, flat_ints _, by rw [inV_ints]; exact q _ F H (Gr.refl sm) rfl⟩
theorem r2_inT2 {neg : Bool} : R2ok K (rIn K neg) (tInt K) (tTp [tInt K, tInt K]) (tBool K) [] (fun x xs => if neg then !decide (x ∈ [xs.1, xs.2]) else decide (x ∈ [xs.1, xs.2])) := fun x y v u F H sm r1 r2 _ Q q => by
  obtain ⟨a, vs, ev, sq, w1, r, e1, r3, w2, e2, r4⟩ := r2
  rw [show v = V.int x from r1, ev]
  rw [show w1 = V.int y.1 from r3] at e1
  rw [show w2 = V.int y.2 from r4] at e2
  subst e1 e2
  refine ⟨a, _, rfl, .inr (.inl (.inl (sm _ _ sq))), rfl, rfl, ?_⟩
  rw [show inV (.int x) [V.int y.1, V.int y.2] = decide (x ∈ [y.1, y.2]) from inV_ints x [y.1, y.2]]
  exact q _ F H (Gr.refl sm) rfl
section
variable {f : S → Int} {g : S → L.α} {to : L.α → List Int} {xs : L.α}
theorem DX.ninI (hl : LL L (tInt K) to) (ha : DX K X Δ a (tInt K) m1 c1 Δ1 f ta) (hb : DX K X Δ1 b L m2 c2 Δ2 g tb) (hK : X.K = K := by rfl) (hmk : behindInMarks .NotIn b = false := by with_unfolding_all rfl) : DX K X Δ (.Compare a [.NotIn] [b] pos) (tBool K) (m1 ++ m2) (c1 ++ (c2 ++ [])) Δ2 (fun s => !decide (f s ∈ to (g s))) (tOp (rIn K true) ta tb) := by
  subst hK
  exact DX.bin (τ := tBool X.K) (cc := []) (g := fun (x : Int) (xs : L.α) => !decide (x ∈ to xs)) (r2_inI (neg := true) hl) ha hb fun p q => pe_cmpR op_notIn_seq p q hmk
theorem DT.ninI (hl : LL L (tInt K) to) (ha : DX K X Δ a (tInt K) m1 c1 Δ1 f ta) (hb : DX K X Δ1 b L m2 c2 Δ2 g tb) (hK : X.K = K := by rfl) (hmk : behindInMarks .NotIn b = false := by with_unfolding_all rfl) : DT K X Δ (.Compare a [.NotIn] [b] pos) (m1 ++ m2) (c1 ++ (c2 ++ [])) Δ2 (fun s => !decide (f s ∈ to (g s))) (tTest (tOp (rIn K true) ta tb)) := by
  subst hK
  exact DT.bin (cc := []) (g := fun (x : Int) (xs : L.α) => !decide (x ∈ to xs)) (r2_inI (neg := true) hl) ha hb fun p q => pt_cmpR op_notIn_seq p q hmk
end
section
variable {f : S → Int} {g : S → Int × Int}
theorem DX.ninT2 (ha : DX K X Δ a (tInt K) m1 c1 Δ1 f ta) (hb : DX K X Δ1 b (tTp [tInt K, tInt K]) m2 c2 Δ2 g tb) (hK : X.K = K := by rfl) (hmk : behindInMarks .NotIn b = false := by with_unfolding_all rfl) : DX K X Δ (.Compare a [.NotIn] [b] pos) (tBool K) (m1 ++ m2) (c1 ++ (c2 ++ [])) Δ2 (fun s => !decide (f s ∈ [(g s).1, (g s).2])) (tOp (rIn K true) ta tb) := by
  subst hK
  exact DX.bin (τ := tBool X.K) (cc := []) (g := fun (x : Int) (xs : Int × Int) => !decide (x ∈ [xs.1, xs.2])) (r2_inT2 (neg := true)) ha hb fun p q => pe_cmpR op_notIn_seq p q hmk
theorem DT.ninT2 (ha : DX K X Δ a (tInt K) m1 c1 Δ1 f ta) (hb : DX K X Δ1 b (tTp [tInt K, tInt K]) m2 c2 Δ2 g tb) (hK : X.K = K := by rfl) (hmk : behindInMarks .NotIn b = false := by with_unfolding_all rfl) : DT K X Δ (.Compare a [.NotIn] [b] pos) (m1 ++ m2) (c1 ++ (c2 ++ [])) Δ2 (fun s => !decide (f s ∈ [(g s).1, (g s).2])) (tTest (tOp (rIn K true) ta tb)) := by
  subst hK
  exact DT.bin (cc := []) (g := fun (x : Int) (xs : Int × Int) => !decide (x ∈ [xs.1, xs.2])) (r2_inT2 (neg := true)) ha hb fun p q => pt_cmpR op_notIn_seq p q hmk
end
/-- xs.count(e), ints; xs is data that stays -/
theorem DX.count {to : L.α → List Int} {f : S → L.α} {fe : S → Int} (hl : LL L (tInt K) to) (h : Δ[i]? = some (.fz L f)) (he : DX K X Δ e (tInt K) ms c1 Δ1 fe ta) (hN : X.N[i]? = some x := by rfl) (hv : Vis X.env.scope x := by first | exact Or.inl rfl | exact Or.inr (Or.inl rfl) | exact Or.inr (Or.inr rfl)) (hd : (x == ("__debug__" : Str)) = false := by decide)
    (hcd : (x == ("__classdict__" : Str)) = false := by decide) (hbase : attributeBase (.Name x px) "count" X.env (eval (.Name x px) X.env) = eval (.Name x px) X.env := by rfl)
    (hfew : ((backTo pos (starEach [e] X.env)).all (fun x => !x.1) && (backToKw pos (keywordEach [] X.env)).all (fun x => x.1.isSome)
      && decide ([e].length + ([] : List Keyword).length + (if ([] : List Keyword).isEmpty then 0 else 1) < 30)) = true := by rfl)
    (hline : (apos.endLine == pos.line) = true := by rfl) (hs : starEach [e] X.env = (false, eval e X.env) :: starEach [] X.env := by rfl) (hplain : (backTo pos (starEach [] X.env)).any (·.1) = false := by rfl) (hK : X.K = K := by rfl) :
    DX K X Δ (.Call (.Attribute (.Name x px) "count" apos) [e] [] pos) (tInt K) ms c1 Δ1 (fun s => ((to (f s)).count (fe s) : Int)) (tBM K "list" (rCntI K) (tVar i) (tCons ta tNil)) := by
  subst hK
  obtain ⟨d1, p, r⟩ := he
  refine ⟨d1, pe_bm PySem.F.plainAttrs_list PySem.F.slot_list_count PySem.F.type_list_count mt_lcount (pe_var hN hv hd hcd) (pa_cons p pa_nil hs) hbase hfew hline hs hplain, fun s F H σ hh sm hc Q q => ?_⟩
  have hi : i < σ.length := by rw [hh.len]; exact (List.getElem?_eq_some_iff.mp h).1
  obtain ⟨o, ho⟩ : ∃ o, σ[i]? = some o := ⟨_, List.getElem?_eq_getElem hi⟩
  obtain ⟨v, e, r0⟩ := hh.at_ i _ o h ho
  obtain ⟨a, vs, ev, sq, pr, _⟩ := hl r0
  have e2 := paired_ints pr
  subst e2
  subst ev
  refine ⟨.ref a, by rw [ho, e], .inl ⟨rfl, _, sm.seq sq⟩, r s F H σ hh sm hc _ fun w F1 H1 g1 hh1 r1 => ⟨a, to (f s), fe s, rfl, by rw [show w = .int (fe s) from r1], g1.fh.seq (g1.ff.seq sq), q _ F1 H1 g1 hh1 rfl⟩⟩
end
end Dx

/-! Dx, part P: slices with a step, calls by keyword. -/
namespace Dx
open PySem PySem.Spec PyProof PyProof.Rows L2
/-- the items of xs[lo:hi:st] -/
def stepL {α : Type} (xs : List α) (lo hi st : Option Int) : List α := (sliceRange (sliceBounds lo hi st xs.length).1 (sliceBounds lo hi st xs.length).2.1 (sliceBounds lo hi st xs.length).2.2).filterMap (xs[·]?)
theorem vals_pick {xs : List V} {us : List Value} (r : Vals xs us) : ∀ is : List Nat, Vals (is.filterMap (xs[·]?)) (is.filterMap (us[·]?))
  | [] => .nil
  | i :: is => by
    rw [List.filterMap_cons, List.filterMap_cons]
    cases h : xs[i]? with
    | none =>
      have h2 : us[i]? = none := by rw [List.getElem?_eq_none_iff, ← r.length]; exact List.getElem?_eq_none_iff.mp h
      rw [h2]
      exact vals_pick r is
    | some v =>
      obtain ⟨u, hu, ru⟩ := r.get h
      rw [hu]
      exact .cons ru (vals_pick r is)
theorem paired_pick {α β : Type} {R : α → β → Prop} {xs : List α} {us : List β} (r : Paired R xs us) : ∀ is : List Nat, Paired R (is.filterMap (xs[·]?)) (is.filterMap (us[·]?))
  | [] => .nil
  | i :: is => by
    rw [List.filterMap_cons, List.filterMap_cons]
    cases h : us[i]? with
    | none =>
      have h2 : xs[i]? = none := by rw [List.getElem?_eq_none_iff, r.length]; exact List.getElem?_eq_none_iff.mp h
      rw [h2]
      exact paired_pick r is
    | some v =>
      obtain ⟨u, hu, ru⟩ := paired_at r h
      rw [hu]
      exact .cons ru (paired_pick r is)
theorem step_pick (its : List Value) (lo hi st : Option Int) : slicePick its.toArray lo hi st = (stepL its lo hi st).toArray := by
  unfold slicePick stepL
  simp only [List.size_toArray]
  congr 1
  congr 1
  funext i
  simp
theorem stepL_len {α : Type} (d : α) (xs : List α) (lo hi st : Option Int) : (stepL xs lo hi st).length ≤ xs.length := by
  have h := slicePick_size_le (xs.map fun _ => Value.none).toArray lo hi st
  have e : (slicePick (xs.map fun _ => Value.none).toArray lo hi st).size = (stepL xs lo hi st).length := by
    rw [step_pick, List.size_toArray]
    unfold stepL
    rw [List.length_map]
    generalize sliceRange _ _ _ = is
    induction is with
    | nil => rfl
    | cons i is ih =>
      rw [List.filterMap_cons, List.filterMap_cons, List.getElem?_map]
      cases xs[i]? with
      | none => exact ih
      | some v =>
        show (_ :: _).length = (_ :: _).length
        rw [List.length_cons, List.length_cons]
        exact congrArg (· + 1) ih
  rw [e] at h
  simpa using h
section
variable {K : PySem.W.Frag} {X : Cx} {S R R' : Type} {Δ Δ1 Δ2 Δ3 Δ4 : Ctx K S} {e a b : Expr} {es : List Expr} {pos p' p2 px apos : Pos} {τ τ1 τ2 L L1 L2' : Ty K} {ω : OTy K} {ms m1 m2 m3 m4 : List Nat} {c1 c2 c3 c4 cs : List (S → Prop)} {ta tb te : TE} {tl : TA} {i j : Nat} {x : Str} {fm : Fm K R'} {lo hi : Option Expr} {st : Expr} {tlo thi tst : TO}
def tSlS (K : PySem.W.Frag) (te : TE) (tl th ts : TO) : TE := fun σ H Q => te σ H fun x H1 => tl σ H1 fun l H2 => th σ H2 fun u H3 => ts σ H3 fun o H4 => ∃ a xs, x = .ref a ∧ SqL K H4 a xs ∧ o ≠ some 0 ∧ ∀ p, H4 p = none → Q (.ref p) (upd H4 p (.lst (stepL xs l u o)))
theorem pe_sliceS (he : PE X e te) (hl : PO X lo tlo) (hu : PO X hi thi) (hs : PO X (some st) tst) (hlt : ∀ o r, letTemporaryGo e o r = pure () := by intro _ _; rfl) : PE X (.Subscript e (.Slice lo hi (some st) p2) pos) (tSlS X.K te tlo thi tst) := by
  refine ⟨fun pins s σ H Q I h => ?_⟩
  refine wpAny_Subscript_Slice_step slot_list_getitem.lookup (thn (he.run pins s σ H _ I h) fun v s1 ⟨x, H1, I1, r1, q1⟩ => ?_) hlt
  refine wpAny_Slice (thn (hl.run pins s1 σ H1 _ I1 q1) fun vl s2 ⟨l, H2, I2, pl, q2⟩ => thn (hu.run pins s2 σ H2 _ I2 q2) fun vu s3 ⟨u, H3, I3, pu, q3⟩ => thn (hs.run pins s3 σ H3 _ I3 q3) fun vs s4 ⟨o, H4, I4, ps, q4⟩ => ?_)
  obtain ⟨a, xs, rfl, hx, h0, q⟩ := q4
  cases r1
  have I5 : Inv X pins σ H4 { s4 with heap := s4.heap.push { cls := .type "slice", data := .fields #[vl, vu, vs] } } := I4.kept (t' := s4.toks) fun b ob q => Heap.get?_push_of_some _ q
  obtain ⟨its, r, ht, hz⟩ := I5.list hx
  have hlen := r.length
  refine ⟨ht.isList.typeIs, ?_⟩
  refine wpAny_getItem_list_slice ht.isList (Heap.IsSliceOf.new ..) pl pu ps h0 ?_ (by rw [List.size_toArray] <;> omega)
  rw [step_pick]
  refine ⟨.ref _, _, I5.laid (t' := s4.toks) (o := .lst (stepL xs l u o)) (fun b ob q => Heap.get?_push_of_some _ q) (Nat.le_refl _) ?_, rfl, q _ (I5.hok.fresh (Nat.le_refl _))⟩
  refine ⟨Nat.le_trans (stepL_len V.non xs l u o) hz, _, 0, ?_, Heap.get?_push_size _ rfl⟩
  unfold stepL
  rw [hlen]
  exact vals_pick r _
theorem DO.slS {to : L.α → List τ.α} {f : S → L.α} {flo fhi fst : S → Option Int} (hl : LL L τ to) (ha : DX K X Δ a L m1 c1 Δ1 f ta) (h1 : DPo K X Δ1 lo m2 c2 Δ2 flo tlo) (h2 : DPo K X Δ2 hi m3 c3 Δ3 fhi thi) (h3 : DPo K X Δ3 (some st) m4 c4 Δ4 fst tst) (h0 : ∀ s, fst s ≠ some 0) (hK : X.K = K := by rfl) (hlt : ∀ o r, letTemporaryGo a o r = pure () := by intro _ _; rfl) :
    DO K X Δ (.Subscript a (.Slice lo hi (some st) p2) pos) (oList τ) (m1 ++ (m2 ++ (m3 ++ m4))) (c1 ++ (c2 ++ (c3 ++ c4))) Δ4 (fun s => stepL (to (f s)) (flo s) (fhi s) (fst s)) (tSlS K ta tlo thi tst) := by
  subst hK
  obtain ⟨d1, p1, r1⟩ := ha
  obtain ⟨d2, q2, r2⟩ := h1
  obtain ⟨d3, q3, r3⟩ := h2
  obtain ⟨d4, q4, r4⟩ := h3
  refine ⟨d1.trans (d2.trans (d3.trans d4)), pe_sliceS p1 q2 q3 q4 hlt, fun s F H σ hh sm hc Q q => ?_⟩
  obtain ⟨k1, k2⟩ := conj_app hc
  obtain ⟨k2, k3⟩ := conj_app k2
  obtain ⟨k3, k4⟩ := conj_app k3
  refine r1 s F H σ hh sm k1 _ fun v F1 H1 g1 hh1 w1 => r2 s F1 H1 σ hh1 g1.fh k2 _ fun F2 H2 g2 hh2 => r3 s F2 H2 σ hh2 g2.fh k3 _ fun F3 H3 g3 hh3 => r4 s F3 H3 σ hh3 g3.fh k4 _ fun F4 H4 g4 hh4 => ?_
  obtain ⟨a, vs, ev, sq, pr, z⟩ := hl (L.mono (g2.ff.trans (g3.ff.trans g4.ff)) w1)
  refine ⟨a, vs, ev, g4.fh.seq sq, h0 s, fun p n => ?_⟩
  have ow : (oList τ).own F4 (.lst (stepL vs (flo s) (fhi s) (fst s))) (stepL (to (f s)) (flo s) (fhi s) (fst s)) := ⟨_, rfl, by unfold stepL; rw [pr.length]; exact paired_pick pr _, Nat.le_trans (by cases e : to (f s) with | nil => simp [stepL] | cons y ys => exact stepL_len y _ _ _ _) z⟩
  have g12 : Gr (MsAt (m1 ++ (m2 ++ (m3 ++ m4))) σ) F H F4 H4 := (g1.mono (msAt_l (m2 := m2 ++ (m3 ++ m4)))).trans ((g2.mono (fun a h => msAt_r (m1 := m1) a (msAt_l (m2 := m3 ++ m4) a h))).trans ((g3.mono fun a h => msAt_r (m1 := m1) a (msAt_r (m1 := m2) a (msAt_l (m2 := m4) a h))).trans (g4.mono fun a h => msAt_r (m1 := m1) a (msAt_r (m1 := m2) a (msAt_r (m1 := m3) a h)))))
  obtain ⟨g5, fn, e5⟩ := own_of_new (ω := oList τ) g4.fh n ow
  exact q p _ F4 _ (g12.trans g5.of0) (hh4.grow g5) (g12.dom p n) fn e5 ow
/-! #### calls by keyword -/
/-- keyword arguments: data that stays -/
def DKs (K : PySem.W.Frag) (X : Cx) (Δ : Ctx K S) (kws : List Keyword) (ms : List Nat) (cs : List (S → Prop)) (Δ1 : Ctx K S) (as : List (AK K S)) (t : TA) : Prop :=
  Diff ms Δ Δ1 ∧ L2.PK X kws t ∧ ∀ s F H σ, Holds Δ s F H σ → Same F H → Conj cs s → ∀ Q : List V → Hp → Prop, (∀ vs F' H', Gr (MsAt ms σ) F H F' H' → Holds Δ1 s F' H' σ → AkAll F' σ s as vs → Q vs H') → t σ H Q
theorem DKs.nil : DKs K X Δ [] [] [] Δ [] tNil := ⟨Diff.refl, pk_nil, fun s F H σ hh sm _ Q q => q [] F H (Gr.refl sm) hh rfl⟩
variable {kws : List Keyword} {nm : Option Str} {kp : Pos} {as ks as' : List (AK K S)} {tk : TA}
theorem DKs.cons {f : S → τ.α} (ha : DX K X Δ e τ m1 c1 Δ1 f ta) (hb : DKs K X Δ1 kws m2 c2 Δ2 as tl) : DKs K X Δ (⟨nm, e, kp⟩ :: kws) (m1 ++ m2) (c1 ++ c2) Δ2 (.fz τ f :: as) (tCons ta tl) := by
  obtain ⟨d1, pa, ra⟩ := ha
  obtain ⟨d2, pb, rb⟩ := hb
  refine ⟨d1.trans d2, pk_cons pa pb, fun s F H σ hh sm hc Q q => ?_⟩
  obtain ⟨h1, h2⟩ := conj_app hc
  refine ra s F H σ hh sm h1 _ fun v F1 H1 g1 hh1 r1 => ?_
  refine rb s F1 H1 σ hh1 g1.fh h2 _ fun vs F2 H2 g2 hh2 r2 => ?_
  exact q _ F2 H2 ((g1.mono (msAt_l (m2 := m2))).trans (g2.mono (msAt_r (m1 := m1)))) hh2 ⟨v, vs, rfl, τ.mono g2.ff r1, r2⟩
/-- as' are the arguments as, picked -/
inductive Pick (as : List (AK K S)) : List Nat → List (AK K S) → Prop
  | nil : Pick as [] []
  | cons {i : Nat} {is : List Nat} {a : AK K S} {r : List (AK K S)} : as[i]? = some a → Pick as is r → Pick as (i :: is) (a :: r)
theorem akAll_at {F : Hp} {σ : L2.St} {s : S} : ∀ {as : List (AK K S)} {vs : List V} {i : Nat} {a : AK K S}, AkAll F σ s as vs → as[i]? = some a → ∃ v, vs[i]? = some v ∧ AkRep F σ s a v
  | [], _, _, _, _, h => by simp at h
  | a :: as, _, 0, _, ⟨v, r, e, h1, _⟩, h => by simp at h; subst h; exact ⟨v, by rw [e]; rfl, h1⟩
  | a :: as, _, i + 1, _, ⟨v, r, e, _, h2⟩, h => by
    obtain ⟨w, e2, r2⟩ := akAll_at h2 (by simpa using h)
    exact ⟨w, by rw [e]; exact e2, r2⟩
def pickV (is : List Nat) (vs : List V) : List V := is.map fun i => vs.getD i .non
theorem Pick.all {F : Hp} {σ : L2.St} {s : S} {vs : List V} {is : List Nat} (h : Pick as is as') (ha : AkAll F σ s as vs) : AkAll F σ s as' (pickV is vs) := by
  induction h with
  | nil => rfl
  | cons e _ ih =>
    obtain ⟨v, e2, r⟩ := akAll_at ha e
    exact ⟨v, _, by unfold pickV; rw [List.map_cons, List.getD_eq_getElem?_getD, e2]; rfl, r, ih⟩
section
variable {k n : Nat} {f : Addr} {fd : FuncData} {ps kn : List Str} {sp : Sp} {is : List Nat}
variable {p : HP fm.ps → Prop} {fv : HP fm.ps → R'} {g : S → HP fm.ps}
end
end
end Dx

/-! Dx, part Q: data of any kind. -/
namespace Dx
open PySem PySem.Spec PyProof PyProof.Rows L2
/-! #### what is asked of data of any kind -/
section
variable {K : PySem.W.Frag}
theorem rd_mono {F F' : Hp} {a : Addr} {u : HO} (h : Same F F') (r : Rd F a u) : Rd F' a u := r.elim (fun e => .inl (h _ _ e)) fun ⟨o, e⟩ => .inr ⟨o, h _ _ e⟩
theorem sqT_mono {F F' : Hp} {a : Addr} {vs : List V} (h : Same F F') (r : SqT K F a vs) : SqT K F' a vs := r.elim (fun e => .inl (rd_mono h e)) .inr
theorem dead_pe {X : Cx} {e : Expr} : PE X e (fun _ _ _ => False) := ⟨fun _ _ _ _ _ _ h => h.elim⟩
end
section
variable {K : PySem.W.Frag} {X : Cx} {S R R' : Type} {Δ Δ1 Δ2 Δ3 : Ctx K S} {e a b tg : Expr} {es elts : List Expr} {pos p' px apos : Pos} {τ τ1 τ2 L : Ty K} {ω : OTy K} {ms m1 m2 : List Nat} {c1 c2 cs : List (S → Prop)} {ta tb : TE} {tl : TA} {i j n m : Nat} {x : Str} {fm : Fm K R'} {sts : List Stmt}
/-- an expression that is not reached -/
theorem DX.dead {f : S → τ.α} : DX K X Δ e τ [] [fun _ => False] Δ f (fun _ _ _ => False) := ⟨Diff.refl, dead_pe, fun s F H σ hh sm hc Q q => hc.1.elim⟩
theorem DR.dead {fm : Fm K R} {f : S → R} : DR K X fm Δ sts [fun _ => False] f := ⟨fun _ _ _ => False, ⟨fun _ _ _ _ _ _ h => h.elim⟩, fun s F H σ hh sm hc D q => hc.1.elim⟩
/-! #### isinstance -/
/-! #### == -/
section
variable {k : Nat} {ga gb : S → PyData}
end
/-! #### zip of two lists, of two tuples -/
end
end Dx

/-! Dx, part R: a comprehension whose element changes one own list; list(range(..)); a, b, .. = a list. -/
namespace Dx
open PySem PySem.Spec PyProof PyProof.Rows L2
section
variable {K : PySem.W.Frag} {S : Type} {Δ : Ctx K S} {s : S} {F H F' H' : Hp} {σ : L2.St} {i : Nat} {ω : OTy K}
end
section
variable {K : PySem.W.Frag} {X : Cx} {S R : Type} {Δ Δ1 Δ2 : Ctx K S} {st : Stmt} {e a b c tg iter elt : Expr} {es ifs : List Expr} {pos p' px apos : Pos} {τ τe τ1 τ2 L : Ty K} {ω ω1 ω2 : OTy K} {mus ms m1 m2 me is vs : List Nat} {c1 c2 c3 cs : List (S → Prop)} {ta tb te : TE} {tt tx : TT} {tl : TA} {i j : Nat} {x y : Str}
/-! #### a, b, .. = a list -/
/-- a list of known length and kinds -/
abbrev tLN (ts : List (Ty K)) : Ty K := ⟨HL ts, fun F v x => ∃ a vs, v = .ref a ∧ F a = some (.lst vs) ∧ RepAll F ts vs x, fun h ⟨a, vs, e, q, r⟩ => ⟨a, vs, e, h _ _ q, r.mono h⟩⟩
theorem DG.lst {ts : List (Ty K)} {es : List Expr} {k : Nat} {h : S → HL ts} {gs : TGs} {is : List Nat} (hb : DGs K X Δ es ts h is Δ1 gs) (hc : X.calm = true := by rfl) (hn : (assignEach es X.env).length = ts.length := by rfl) (hst : (assignEach es X.env).findIdx? (·.1) = none := by rfl) (hK : X.K = K := by rfl) : DG K X Δ (.Tuple es k pos) (tLN ts) h is Δ1 (gLst K ts.length gs) := by
  subst hK
  exact ⟨hb.1, pg_lst hc hb.2.1 hn hst, fun s F H σ v hh sm ⟨a, vs, ev, q1, r⟩ Q q => ⟨a, vs, ev, .inl (.inl (sm _ _ q1)), r.length, hb.2.2 s F H σ vs hh sm r Q q⟩⟩
/-! #### list(range(..)) -/
end
end Dx

/-! Dx, part S: is not of bools; one of several new lists. -/
namespace Dx
open PySem PySem.Spec PyProof PyProof.Rows L2
section
variable {K : PySem.W.Frag} {X : Cx} {S R : Type} {Δ Δ1 Δ2 : Ctx K S} {e a b : Expr} {es : List Expr} {pos p' px : Pos} {τ : Ty K} {ω : OTy K} {ms m1 m2 : List Nat} {c1 c2 cs : List (S → Prop)} {ta tb : TE} {tl : TA} {i : Nat}
/-! #### one of several new lists -/
/-- items that are new objects of one's own, all of one type -/
def DLo (K : PySem.W.Frag) (X : Cx) (Δ : Ctx K S) (es : List Expr) (ω : OTy K) (ms : List Nat) (cs : List (S → Prop)) (Δ1 : Ctx K S) (f : S → List ω.τ.α) (t : TA) : Prop :=
  Diff ms Δ Δ1 ∧ PA X es t ∧ ∀ s F H σ, Holds Δ s F H σ → Same F H → Conj cs s → ∀ Q : List V → Hp → Prop, (∀ vs F' H', Gr (MsAt ms σ) F H F' H' → Holds Δ1 s F' H' σ → Paired (fun v x => ∃ p u, v = .ref p ∧ H p = none ∧ F' p = none ∧ H' p = some u ∧ ω.own F' u x) vs (f s) → Q vs H') → t σ H Q
theorem DLo.nil : DLo K X Δ [] ω [] [] Δ (fun _ => []) tNil := ⟨Diff.refl, pa_nil, fun s F H σ hh sm _ Q q => q [] F H (Gr.refl sm) hh .nil⟩
theorem DLo.cons {f : S → ω.τ.α} {g : S → List ω.τ.α} (ha : DO K X Δ e ω m1 c1 Δ1 f ta) (hm1 : OwnAll Δ m1) (hb : DLo K X Δ1 es ω m2 c2 Δ2 g tl) (hm2 : OwnAll Δ1 m2) (hs : starEach (e :: es) X.env = (false, eval e X.env) :: starEach es X.env := by rfl) : DLo K X Δ (e :: es) ω (m1 ++ m2) (c1 ++ c2) Δ2 (fun s => f s :: g s) (tCons ta tl) := by
  obtain ⟨d1, pa, ra⟩ := ha
  obtain ⟨d2, pb, rb⟩ := hb
  refine ⟨d1.trans d2, pa_cons pa pb hs, fun s F H σ hh sm hc Q q => ?_⟩
  obtain ⟨h1, h2⟩ := conj_app hc
  refine ra s F H σ hh sm h1 _ fun p u F1 H1 g1 hh1 n1 n2 e1 o1 => ?_
  refine rb s F1 H1 σ hh1 g1.fh h2 _ fun vs F2 H2 g2 hh2 r2 => ?_
  have np : ¬ MsAt m2 σ p := fun ⟨j, hj, ej⟩ => by
    obtain ⟨ω', f', e4⟩ := hm2.all j hj
    exact (d1.was hh e4 ej).2 n1
  have e2 : H2 p = some u := g2.keep _ _ e1 np
  have nf : F2 p = none := by
    cases x : F2 p with
    | none => rfl
    | some o =>
      rcases g2.fresh p o x with z | z
      · rw [n2] at z; cases z
      · rw [e1] at z; cases z
  exact q _ F2 H2 ((g1.mono (msAt_l (m2 := m2))).trans (g2.mono (msAt_r (m1 := m1)))) hh2 (.cons ⟨p, u, rfl, n1, nf, e2, ω.mono g2.ff o1⟩ (paired_mono (fun a b ⟨p, u, k1, k2, k3, k4, k5⟩ => ⟨p, u, k1, g1.dom p k2, k3, k4, k5⟩) r2))
end
end Dx

/-! Dx, part T: x = [..], the statement of its own. -/
namespace Dx
open PySem PySem.Spec PyProof PyProof.Rows L2
section
variable {K : PySem.W.Frag} {X : Cx} {S R : Type} {Δ Δ1 Δ2 : Ctx K S} {st : Stmt} {e a b c tg iter elt : Expr} {es ifs : List Expr} {pos p' px apos : Pos} {τ τe τ1 τ2 L : Ty K} {ω ω1 ω2 : OTy K} {mus ms m1 m2 me is vs : List Nat} {c1 c2 c3 cs : List (S → Prop)} {ta tb te : TE} {tt tx : TT} {tl : TA} {i j : Nat} {x y : Str}
/-- the value of a store of its own (the compiler joins the two) -/
def Sole (X : Cx) (e : Expr) (ta : TE) : Prop := ∀ (i : Nat) (y : Str) (py spos : Pos), X.N.Nodup → X.N[i]? = some y → X.env.scope.names.lookup y = some .local → swapsWith e (some (.Name y py)) spos.line X.env = pure true → PS X (.Assign [.Name y py] e spos) (tAsg ta (gName i))
def DOS (K : PySem.W.Frag) (X : Cx) (Δ : Ctx K S) (e : Expr) (ω : OTy K) (ms : List Nat) (cs : List (S → Prop)) (Δ1 : Ctx K S) (f : S → ω.τ.α) (t : TE) : Prop := DO K X Δ e ω ms cs Δ1 f t ∧ Sole X e t
theorem DOS.lc {scope : Scope} {own : List (Str × Nat)} {Δb : Ctx K (S × τ.α)} {fx : S → List τ.α} {wi : TI} {g : TG} {ct ce : List (S × τ.α → Prop)} {ft : S × τ.α → Bool} {fe : S × τ.α → τe.α} (hN : X.N.Nodup) (hi : DI K X Δ tg iter τ ms c1 Δ1 fx wi) (ok : BlkOk X.N X.env.scope scope own)
    (hg : ∀ (s : Shared) (H : Hp) (C : Addr) (cl : List (Str × Addr)) (fp : List Addr), DG K (X.blk s H scope (compEnvC scope cl C X.env) fp) (Ctx.comap (T := S × τ.α) Prod.fst (killL Δ1 (own.map (·.2)))) tg τ Prod.snd is Δb g)
    (ht : ∀ (s : Shared) (H : Hp) (C : Addr) (cl : List (Str × Addr)) (fp : List Addr), DTs' K (X.blk s H scope (compEnvC scope cl C X.env) fp) Δb ifs ct ft tt)
    (he : ∀ (s : Shared) (H : Hp) (C : Addr) (cl : List (Str × Addr)) (fp : List Addr), DX K (X.blk s H scope (compEnvC scope cl C X.env) fp) Δb elt τe [] ce Δb fe te) (his : ∀ j ∈ is, j ∈ own.map (·.2)) (hc : X.calm = true := by rfl) (hs : ∀ x, foldedSetIterable iter X.env x = pure x := by intro _; rfl) :
    DOS K X Δ (.ListComp elt [⟨tg, iter, ifs, 0⟩] scope pos) (oList τe) ms (c1 ++ [fun s => ∀ x ∈ fx s, Conj ct (s, x) ∧ (ft (s, x) = true → Conj ce (s, x))]) Δ1 (fun s => lcV (fx s) (fun x => ft (s, x)) (fun x => fe (s, x))) (tLc wi g tt te (own.map (·.2))) :=
  ⟨DO.lc hN hi ok hg ht he his hc hs, fun i y py spos hN hy hyl hsw => ps_setLc hc hN hy hyl hsw hi.2.1 ok (fun s H C cl fp => (hg s H C cl fp).2.1) (fun s H C cl fp => (ht s H C cl fp).1) (fun s H C cl fp => (he s H C cl fp).2.1) hs⟩
theorem DOS.borrowE (i : Nat) {f : S → ω.τ.α} {g : S → ω1.τ.α} (h : Δ[i]? = some (.ow ω f)) (he : DOS K X (Δ.set i (.fz ω.τ f)) e ω1 ms c1 Δ1 g ta) (lf : LFo ω1) (him : i ∉ ms) (hm : OwnAll Δ ms) (lm : LfAll Δ1 ms) : DOS K X Δ e ω1 ms c1 (Δ1.set i (.ow ω f)) g ta :=
  ⟨DO.borrowE i h he.1 lf him hm lm, he.2⟩
/-- x = [..], kept as one's own -/
theorem DS.setS {h : S → ω.τ.α} {py spos : Pos} (he : DOS K X Δ e ω ms c1 Δ1 h ta) (hm : OwnAll Δ ms) (hN : X.N.Nodup) (hy : X.N[i]? = some y) (hyl : X.env.scope.names.lookup y = some .local) (hu : i ∉ mus) (hsw : swapsWith e (some (.Name y py)) spos.line X.env = pure true := by rfl) :
    DS K X mus Δ (.Assign [.Name y py] e spos) c1 (Δ1.set i (.ow ω h)) := DS.setG he.1 (he.2 i y py spos hN hy hyl hsw) hm hu
/-- .. as data that stays -/
theorem DS.setSF {h : S → List τ.α} {py spos : Pos} (he : DOS K X Δ e (oList τ) ms c1 Δ1 h ta) (hm : OwnAll Δ ms) (hN : X.N.Nodup) (hy : X.N[i]? = some y) (hyl : X.env.scope.names.lookup y = some .local) (hu : i ∉ mus) (hsw : swapsWith e (some (.Name y py)) spos.line X.env = pure true := by rfl) :
    DS K X mus Δ (.Assign [.Name y py] e spos) c1 (Δ1.set i (.fz (tList τ) h)) := by
  obtain ⟨d1, p, r⟩ := DX.ofL he.1
  have hg : DG K X Δ1 (.Name y py) (tList τ) h [i] (Δ1.set i (.fz (tList τ) h)) (gName i) := DG.name hN hy (.inl hyl) (.inr hyl)
  refine ⟨_, he.2 i y py spos hN hy hyl hsw, fun s F H σ hh sm hc D q => r s F H σ hh sm hc _ fun v F1 H1 g1 hh1 r1 => hg.2.2 s F1 H1 σ v hh1 g1.fh r1 _ fun σ1 k1 k2 k3 => q σ1 F1 H1 ?_ k1⟩
  have gs : GrS mus Δ σ Δ1 σ F H F1 H1 := GrS.ofGr d1 hh hm.all g1
  exact { gs.toGrR with own := fun a z => gs.own a (k2 a z), mu := fun k m => k3 k fun z => hu (List.mem_singleton.mp z ▸ m) }
end
end Dx

/-! Dx, part U: list(range(a, b)) at any bounds. -/
namespace Dx
open PySem PySem.Spec PyProof PyProof.Rows L2
section
variable {prog : Program} {w : World} {A : Around} {E : Value → Shared → Prop} {s : Shared}
end
section
variable {prog : Program} {w : World} {A : Around} {E : Value → Shared → Prop} {s : Shared}
end
section
variable {K : PySem.W.Frag} {X : Cx} {S : Type} {Δ Δ1 Δ2 : Ctx K S} {e a b : Expr} {pos px : Pos} {m1 m2 : List Nat} {c1 c2 : List (S → Prop)} {ta tb : TE}
end
end Dx

/-! Dx, part V: texts. -/
namespace Dx
open PySem PySem.Spec PyProof PyProof.Rows L2
/-! #### texts without strange signs -/
theorem ok_iff {x : Str} : PyData.strOk x = true ↔ ∀ c ∈ TL.tl x, c < 0x110000 := by
  unfold PyData.strOk
  rw [Array.all_eq_true']
  simp [TL.tl]
theorem ok_str (s : String) : PyData.strOk (Str.ofString s) = true := by
  rw [ok_iff, TL.tl_ofString]
  intro c hc
  obtain ⟨d, _, e⟩ := List.mem_map.mp hc
  subst e
  have := d.valid
  have h : d.toNat < 0x110000 := by
    rcases this with h | ⟨_, h⟩
    · exact Nat.lt_trans h (by decide)
    · exact h
  exact h
theorem ok_mk {l : List Nat} (h : ∀ c ∈ l, c < 0x110000) : PyData.strOk ⟨l.toArray⟩ = true := ok_iff.mpr h
def cutT (z : Str) (lo hi : Option Int) : Str := L2.cutS z lo hi
theorem ok_cut {z : Str} (lo hi : Option Int) (h : PyData.strOk z = true) : PyData.strOk (cutT z lo hi) = true := by
  refine ok_mk fun c hc => ok_iff.mp h c ?_
  exact List.mem_of_mem_drop (List.mem_of_mem_take hc)
/-- the signs of a text, each a text -/
def charsS (x : Str) : List Str := x.cps.toList.map fun c => ⟨#[c]⟩
theorem charsS_len (x : Str) : (charsS x).length = x.length := by simp [charsS, Str.length]
theorem ok_char {x : Str} (h : PyData.strOk x = true) : ∀ c ∈ charsS x, PyData.strOk c = true := fun c hc => by
  obtain ⟨d, hd, e⟩ := List.mem_map.mp hc
  subst e
  exact ok_mk (l := [d]) fun e he => by rw [List.mem_singleton.mp he]; exact ok_iff.mp h d hd
section
variable {K : PySem.W.Frag} {X : Cx} {S R : Type} {Δ Δ1 Δ2 Δ3 : Ctx K S} {e a b tg : Expr} {es : List Expr} {pos p' p2 px apos : Pos} {ms m1 m2 m3 : List Nat} {c1 c2 c3 cs : List (S → Prop)} {ta tb : TE} {tl : TA} {lo hi : Option Expr} {tlo thi : TO} {L : Ty K}
/-- x[lo:hi] -/
theorem DX.slS {f : S → Str} {flo fhi : S → Option Int} (ha : DX K X Δ a (tStr K) m1 c1 Δ1 f ta) (h1 : DPo K X Δ1 lo m2 c2 Δ2 flo tlo) (h2 : DPo K X Δ2 hi m3 c3 Δ3 fhi thi) : DX K X Δ (.Subscript a (.Slice lo hi none p2) pos) (tStr K) (m1 ++ (m2 ++ m3)) (c1 ++ (c2 ++ (c3 ++ [fun s => (f s).length ≤ sizeLine]))) Δ3 (fun s => cutT (f s) (flo s) (fhi s)) (tSl rSlS ta tlo thi) := by
  obtain ⟨d1, p1, r1⟩ := ha
  obtain ⟨d2, q2, r2⟩ := h1
  obtain ⟨d3, q3, r3⟩ := h2
  refine ⟨d1.trans (d2.trans d3), pe_slice sl_str p1 q2 q3, fun s F H σ hh sm hc Q q => ?_⟩
  obtain ⟨k1, k2⟩ := conj_app hc
  obtain ⟨k2, k3⟩ := conj_app k2
  obtain ⟨k3, k4, _⟩ := conj_app k3
  refine r1 s F H σ hh sm k1 _ fun v F1 H1 g1 hh1 w1 => r2 s F1 H1 σ hh1 g1.fh k2 _ fun F2 H2 g2 hh2 => r3 s F2 H2 σ hh2 g2.fh k3 _ fun F3 H3 g3 hh3 => ⟨f s, w1.1, k4, ?_⟩
  have g12 : Gr (MsAt (m1 ++ (m2 ++ m3)) σ) F H F3 H3 := (g1.mono (msAt_l (m2 := m2 ++ m3))).trans ((g2.mono (fun a h => msAt_r (m1 := m1) a (msAt_l (m2 := m3) a h))).trans (g3.mono fun a h => msAt_r (m1 := m1) a (msAt_r (m1 := m2) a h)))
  exact q _ F3 H3 g12 hh3 ⟨rfl, ok_cut _ _ w1.2⟩
/-- for c in text -/
theorem walks_str {F0 : Hp} {x : Str} (h : PyData.strOk x = true) (z : x.length ≤ sizeLine) : Walks K (Its x) F0 (tStr K) (charsS x) where
  go := fun i c F H s1 s2 e => by
    unfold charsS at e
    rw [List.getElem?_map] at e
    obtain ⟨d, h1, h2⟩ := Option.map_eq_some_iff.mp e
    have hi : i < x.cps.size := by have := (List.getElem?_eq_some_iff.mp h1).1; simpa using this
    refine ⟨hi, fun v H' ⟨eH, d', h3, ev⟩ => ?_⟩
    have : d' = d := by
      rw [← Array.getElem?_toList, h1] at h3
      cases h3; rfl
    subst this eH
    exact ⟨F, Gr.refl s2, by rw [ev, ← h2], ok_char h _ (List.mem_map.mpr ⟨_, List.mem_of_getElem? h1, h2⟩)⟩
  stop := fun i F H s1 s2 e => by
    have : (charsS x).length ≤ i := e
    rw [charsS_len] at this
    exact this
  len := by rw [charsS_len]; exact z
theorem DI.str {f : S → Str} (he : DX K X Δ e (tStr K) ms c1 Δ1 f ta) : DI K X Δ tg e (tStr K) ms (c1 ++ [fun s => (f s).length ≤ sizeLine]) Δ1 (fun s => charsS (f s)) (iStr ta) := by
  obtain ⟨d1, p, r⟩ := he
  refine ⟨d1, pi_str p, fun s F H σ hh sm hc R q => ?_⟩
  obtain ⟨k1, k2, _⟩ := conj_app hc
  exact r s F H σ hh sm k1 _ fun v F1 H1 g1 hh1 r1 => ⟨f s, r1.1, q _ F1 H1 g1 hh1 (walks_str r1.2 k2)⟩
/-! #### chains of texts -/
end
end Dx

/-! Dx, part W: a text among two. -/
namespace Dx
open PySem PySem.Spec PyProof PyProof.Rows L2
section
variable {K : PySem.W.Frag} {X : Cx} {S R : Type} {Δ Δ1 Δ2 : Ctx K S} {e a b : Expr} {pos p' px apos : Pos} {m1 m2 : List Nat} {c1 c2 cs : List (S → Prop)} {ta tb : TE} {f : S → Str} {g : S → Str × Str}
theorem eqV_str (a b : Str) : eqV (.str a) (.str b) = decide (a = b) := by show (a == b) = _; exact Bool.beq_eq_decide_eq a b
theorem inV_two (x a b : Str) : inV (.str x) [.str a, .str b] = decide (x = a ∨ x = b) := by
  show (eqV (.str a) (.str x) || (eqV (.str b) (.str x) || false)) = _
  rw [eqV_str, eqV_str, Bool.or_false]
  by_cases h1 : x = a <;> by_cases h2 : x = b
  · simp [← h1, ← h2]
  · simp [← h1]
  · simp [← h2]
  · simp [h1, h2, Ne.symm h1, Ne.symm h2]
theorem r2_inTS {neg : Bool} : R2ok K (rIn K neg) (tStr K) (tTp [tStr K, tStr K]) (tBool K) [] (fun (x : Str) (xs : Str × Str) => if neg then !decide (x = xs.1 ∨ x = xs.2) else decide (x = xs.1 ∨ x = xs.2)) := fun (x : Str) (y : Str × Str) v u F H sm r1 r2 _ Q q => by
  obtain ⟨a, vs, ev, sq, w1, r, e1, r3, w2, e2, r4⟩ := r2
  rw [r1.1, ev]
  rw [r3.1] at e1
  rw [r4.1] at e2
  subst e1 e2
  refine ⟨a, _, rfl, .inr (.inl (.inl (sm _ _ sq))), rfl, rfl, ?_⟩
  rw [show inV (.str x) [V.str y.1, V.str y.2] = decide (x = y.1 ∨ x = y.2) from inV_two x y.1 y.2]
  exact q _ F H (Gr.refl sm) rfl
theorem DX.ninTS (ha : DX K X Δ a (tStr K) m1 c1 Δ1 f ta) (hb : DX K X Δ1 b (tTp [tStr K, tStr K]) m2 c2 Δ2 g tb) (hK : X.K = K := by rfl) (hmk : behindInMarks .NotIn b = false := by with_unfolding_all rfl) : DX K X Δ (.Compare a [.NotIn] [b] pos) (tBool K) (m1 ++ m2) (c1 ++ (c2 ++ [])) Δ2 (fun s => !decide (f s = (g s).1 ∨ f s = (g s).2)) (tOp (rIn K true) ta tb) := by
  subst hK
  exact DX.bin (τ := tBool X.K) (cc := []) (g := fun (x : Str) (xs : Str × Str) => !decide (x = xs.1 ∨ x = xs.2)) (r2_inTS (neg := true)) ha hb fun p q => pe_cmpR op_notIn_seq p q hmk
theorem DT.ninTS (ha : DX K X Δ a (tStr K) m1 c1 Δ1 f ta) (hb : DX K X Δ1 b (tTp [tStr K, tStr K]) m2 c2 Δ2 g tb) (hK : X.K = K := by rfl) (hmk : behindInMarks .NotIn b = false := by with_unfolding_all rfl) : DT K X Δ (.Compare a [.NotIn] [b] pos) (m1 ++ m2) (c1 ++ (c2 ++ [])) Δ2 (fun s => !decide (f s = (g s).1 ∨ f s = (g s).2)) (tTest (tOp (rIn K true) ta tb)) := by
  subst hK
  exact DT.bin (cc := []) (g := fun (x : Str) (xs : Str × Str) => !decide (x = xs.1 ∨ x = xs.2)) (r2_inTS (neg := true)) ha hb fun p q => pt_cmpR op_notIn_seq p q hmk
end
end Dx

/-! Dx, part X: sorted(set(ints)), few or many. -/
namespace L2
open PySem PySem.Spec PyProof PyProof.Rows
section
variable {P : Program} {w : World} {A : Around} {E : Value → Shared → Prop} {s : Shared}
abbrev bare (w : World) : Obj := { cls := .type "set", dict := none, data := .set #[] 0 (.fresh 0 0 (!w.params.followText "set-order")) }
set_option maxHeartbeats 3200000 in
end
section
variable {X : Cx}
end
end L2
namespace Dx
open PySem PySem.Spec PyProof PyProof.Rows L2
section
variable {K : PySem.W.Frag} {X : Cx} {S : Type} {Δ Δ1 Δ2 : Ctx K S} {e : Expr} {pos px pos2 px2 : Pos} {τ L : Ty K} {ms : List Nat} {c1 : List (S → Prop)} {ta : TE}
end
end Dx

/-! Dx, part Y: what may be None, and what is not. -/
namespace Dx
open PySem PySem.Spec PyProof PyProof.Rows L2
section
variable {K : PySem.W.Frag} {X : Cx} {S : Type} {Δ Δ1 : Ctx K S} {e : Expr} {τ : Ty K} {ms : List Nat} {cs : List (S → Prop)} {ta : TE}
theorem nv_int {F : Hp} {v : V} {x : Int} (r : (tInt K).rep F v x) : v ≠ .non := fun z => by rw [z] at r; cases r
theorem DX.someO {f : S → τ.α} (hn : ∀ {F v x}, τ.rep F v x → v ≠ .non) (he : DX K X Δ e τ ms cs Δ1 f ta) : DX K X Δ e (tOpt τ) ms cs Δ1 (fun s => some (f s)) ta :=
  ⟨he.1, he.2.1, fun s F H σ hh sm hc Q q => he.2.2 s F H σ hh sm hc Q fun v F1 H1 g hh1 r => q v F1 H1 g hh1 ⟨hn r, r⟩⟩
theorem DX.getO (d : τ.α) {f : S → Option τ.α} (he : DX K X Δ e (tOpt τ) ms cs Δ1 f ta) : DX K X Δ e τ ms (cs ++ [fun s => (f s).isSome = true]) Δ1 (fun s => (f s).getD d) ta :=
  ⟨he.1, he.2.1, fun s F H σ hh sm hc Q q => by
    obtain ⟨k1, k2, _⟩ := conj_app hc
    refine he.2.2 s F H σ hh sm k1 Q fun v F1 H1 g hh1 r => q v F1 H1 g hh1 ?_
    obtain ⟨x, ex⟩ := Option.isSome_iff_exists.mp k2
    rw [ex] at r
    show τ.rep F1 v ((f s).getD d)
    rw [ex]
    exact r.2⟩
end
end Dx
namespace Dx
open PySem PySem.Spec PyProof PyProof.Rows L2
section
variable {K : PySem.W.Frag} {X : Cx} {S : Type} {Δ Δ1 : Ctx K S} {e tg : Expr} {τ : Ty K} {ms : List Nat} {cs : List (S → Prop)} {ta : TE}
theorem walks_tup {F0 : Hp} {a : Addr} {vs : List V} {xs : List τ.α} (h : SqT K F0 a vs) (p : Paired (τ.rep F0) vs xs) (z : xs.length ≤ sizeLine) : Walks K (Itt K a) F0 τ xs where
  go := fun i x F H s1 s2 e => by
    obtain ⟨v, ev, rv⟩ := paired_at p e
    refine ⟨⟨vs, v, sqT_mono s2 (sqT_mono s1 h), ev⟩, fun v' H' ⟨e1, e2⟩ => ?_⟩
    subst e1
    have e3 := e2 vs (sqT_mono s2 (sqT_mono s1 h))
    rw [ev] at e3; cases e3
    exact ⟨F, Gr.refl s2, τ.mono s1 rv⟩
  stop := fun i F H s1 s2 e => ⟨vs, sqT_mono s2 (sqT_mono s1 h), by rw [p.length]; exact e⟩
  len := z
/-- a pair walked -/
theorem DI.tup2 {f : S → τ.α × τ.α} (he : DX K X Δ e (tTp [τ, τ]) ms cs Δ1 f ta) (hK : X.K = K := by rfl) : DI K X Δ tg e τ ms cs Δ1 (fun s => [(f s).1, (f s).2]) (iTup K ta) := by
  subst hK
  obtain ⟨d1, p, r⟩ := he
  refine ⟨d1, pi_tup p, fun s F H σ hh sm hc R q => r s F H σ hh sm hc _ fun v F1 H1 g1 hh1 r1 => ?_⟩
  obtain ⟨a, vs, ev, hv, ra⟩ := r1
  have sq : SqT X.K F1 a vs := .inl (.inl hv)
  refine ⟨a, ev, ⟨vs, sqT_mono g1.fh sq⟩, q _ F1 H1 g1 hh1 (walks_tup sq ?_ (by show 2 ≤ sizeLine; decide))⟩
  obtain ⟨v1, r1, e1, w1, v2, e2, w2⟩ := ra
  subst e1
  subst e2
  exact .cons w1 (.cons w2 .nil)
end
end Dx
namespace Dx
open PySem PySem.Spec PyProof PyProof.Rows L2
section
variable {K : PySem.W.Frag} {X : Cx} {S : Type} {Δ Δ1 : Ctx K S} {b : Expr} {pos px : Pos} {τ : Ty K} {c2 : List (S → Prop)} {tb : TE} {i : Nat} {x : Str}
/-- an item of a list of one's own, the list not lent -/
theorem DX.ixOwn {f : S → List τ.α} {g : S → Int} (d : τ.α) (h : Δ[i]? = some (.ow (oList τ) f)) (hb : DX K X Δ b (tInt K) [] c2 Δ g tb) (hN : X.N[i]? = some x := by rfl) (hv : Vis X.env.scope x := by first | exact Or.inl rfl | exact Or.inr (Or.inl rfl) | exact Or.inr (Or.inr rfl)) (hd : (x == ("__debug__" : Str)) = false := by decide)
    (hcd : (x == ("__classdict__" : Str)) = false := by decide) (hp : PlainIx b := by exact fun _ _ => rfl) (hK : X.K = K := by rfl) :
    DX K X Δ (.Subscript (.Name x px) b pos) τ [] (c2 ++ [fun s => IxOk (f s) (g s)]) Δ (fun s => ixI d (f s) (g s)) (tOp (rIxL K) (tVar i) tb) := by
  subst hK
  obtain ⟨d1, p, r⟩ := hb
  refine ⟨d1, pe_ix ix_list (pe_var hN hv hd hcd) p hp, fun s F H σ hh sm hc Q q => ?_⟩
  obtain ⟨k1, k2, _⟩ := conj_app hc
  have hi : i < σ.length := by rw [hh.len]; exact (List.getElem?_eq_some_iff.mp h).1
  obtain ⟨o, ho⟩ : ∃ o, σ[i]? = some o := ⟨_, List.getElem?_eq_getElem hi⟩
  obtain ⟨p0, u0, ep0, np0, hp0, vs, eu, pr, z⟩ := hh.at_ i _ o h ho
  subst eu
  refine ⟨.ref p0, by rw [ho, ep0], r s F H σ hh sm k1 _ fun w F1 H1 g1 hh1 r1 => ?_⟩
  have hp1 : H1 p0 = some (.lst vs) := g1.keep p0 _ hp0 (by rw [msAt_nil]; exact fun q => q)
  obtain ⟨j, e1, e2⟩ := ix_at (d := d) k2
  obtain ⟨zv, e3, rz⟩ := paired_at pr e2
  exact ⟨p0, vs, g s, zv, rfl, by rw [show w = .int (g s) from r1], .inl (.inl hp1), by unfold atI; rw [pr.length, e1]; exact e3, q zv F1 H1 g1 hh1 (τ.mono g1.ff rz)⟩
end
end Dx

/-! Dx, part Z: dicts of ints, as rows of keys. -/
namespace L2
open PySem PySem.Spec PyProof PyProof.Rows
end L2
namespace Dx
open PySem PySem.Spec PyProof PyProof.Rows L2
def KeysOf (kvs : List (Key × V)) (ks : List Int) : Prop := kvs.map (·.1) = ks.map Sum.inl
theorem keys_any {kvs : List (Key × V)} {ks : List Int} (h : KeysOf kvs ks) (k : Int) : (kvs.any fun kv => decide (kv.1 = (.inl k : Key))) = decide (k ∈ ks) := by
  have e : (kvs.any fun kv => decide (kv.1 = (.inl k : Key))) = (kvs.map (·.1)).any fun q => decide (q = (.inl k : Key)) := by rw [List.any_map]; rfl
  rw [e, h, List.any_map]
  rw [Bool.eq_iff_iff]
  simp
section
variable {K : PySem.W.Frag}
theorem keys_len {kvs : List (Key × V)} {ks : List Int} (h : KeysOf kvs ks) : kvs.length = ks.length := by
  have := congrArg List.length h
  simpa using this
theorem walks_keys {F0 : Hp} {d : Addr} {o : Obj} {kvs : List (Key × V)} {ks : List Int} (h : F0 d = some (.frz o (.dK kvs))) (hk : KeysOf kvs ks) (z : ks.length ≤ sizeLine) : Walks K (Itk d o kvs) F0 (tInt K) ks where
  go := fun i x F H s1 s2 e => by
    obtain ⟨hi, ex⟩ := List.getElem?_eq_some_iff.mp e
    have hd := s2 _ _ (s1 _ _ h)
    refine ⟨⟨hd, by rw [keys_len hk]; exact hi⟩, fun v H' ⟨eH, k, w, h3, ev⟩ => ?_⟩
    subst eH
    have h4 : (kvs.map (·.1))[i]? = some k := by rw [List.getElem?_map, h3]; rfl
    rw [hk, List.getElem?_map, e] at h4
    have h5 : (.inl x : Key) = k := Option.some.inj h4
    exact ⟨F, Gr.refl s2, by rw [ev, ← h5]; rfl⟩
  stop := fun i F H s1 s2 e => ⟨s2 _ _ (s1 _ _ h), by rw [keys_len hk]; exact e⟩
  len := z
end
section
variable {K : PySem.W.Frag} {X : Cx} {S : Type} {Δ Δ1 Δ2 : Ctx K S} {e a b tg : Expr} {pos px p2 : Pos} {τ : Ty K} {ms m1 m2 mus : List Nat} {cs c1 c2 : List (S → Prop)} {ta tb : TE} {i : Nat} {x : Str} {k : Nat}
end
end Dx

/-! Dx, part a: dict comprehensions, ranges with a step. -/
namespace Dx
open PySem PySem.Spec PyProof PyProof.Rows L2
section
variable {K : PySem.W.Frag} {X : Cx} {S R : Type} {Δ Δ1 Δ2 : Ctx K S} {st : Stmt} {e a b c tg iter kx vx : Expr} {es ifs : List Expr} {pos p' apos : Pos} {τ τe τ1 τ2 L : Ty K} {ω ω1 ω2 : OTy K} {mus ms m1 m2 m3 is vs : List Nat} {c1 c2 c3 cs : List (S → Prop)} {ta tb tc tk te : TE} {tt tx : TT} {tl : TA} {i j : Nat} {x y : Str}
/-! ### range with a step -/
end
end Dx

/-! Dx, part b: text times number, x += text, repr of data of any kind. -/
namespace Dx
open PySem PySem.Spec PyProof PyProof.Rows L2
/-! ### enumerate(text) -/
section
variable {K : PySem.W.Frag} {X : Cx} {S : Type} {Δ Δ1 : Ctx K S} {e : Expr} {elts : List Expr} {pos : Pos} {ms : List Nat} {c1 : List (S → Prop)} {ta : TE}
end
section
variable {K : PySem.W.Frag} {X : Cx} {S : Type} {Δ Δ1 Δ2 : Ctx K S} {e a b : Expr} {pos px : Pos} {τ : Ty K} {ms m1 m2 mus : List Nat} {c1 c2 : List (S → Prop)} {ta tb : TE} {i n : Nat} {x : Str}
end
end Dx

set_option maxHeartbeats 4000000
/-! Dx, part c: tuples of any length. -/
namespace Dx
open PySem PySem.Spec PyProof PyProof.Rows L2
section
variable {X : Cx}
end
section
variable {K : PySem.W.Frag}
end
section
variable {K : PySem.W.Frag} {X : Cx} {S R : Type} {Δ Δ1 Δ2 : Ctx K S} {e a b : Expr} {pos px : Pos} {τ : Ty K} {ms m1 m2 : List Nat} {c1 c2 cs : List (S → Prop)} {ta tb : TE} {i n : Nat} {x : Str} {mus : List Nat} {sts : List Stmt} {fm : Fm K R}
end
/-! ### an own list told anew -/
section
variable {K : PySem.W.Frag} {X : Cx} {S R : Type} {Δ Δ1 : Ctx K S} {τ : Ty K} {ω ω' : OTy K} {i : Nat} {mus : List Nat} {sts : List Stmt} {fm : Fm K R} {cs : List (S → Prop)} {s : S} {F H : Hp} {σ : L2.St}
theorem Holds.re {f : S → ω.τ.α} {f' : S → ω'.τ.α} (hh : Holds Δ s F H σ) (h : Δ[i]? = some (.ow ω f)) (hc : ∀ u, ω.own F u (f s) → ω'.own F u (f' s)) : Holds (Δ.set i (.ow ω' f')) s F H σ where
  len := by rw [List.length_set, hh.len]
  at_ := fun j sl o e1 e2 => by
    rcases get_set1 e1 with ⟨rfl, rfl, _⟩ | ⟨n1, e1⟩
    · obtain ⟨p, u, e3, n, hp, w⟩ := hh.at_ i _ o h e2
      exact ⟨p, u, e3, n, hp, hc u w⟩
    · exact hh.at_ j sl o e1 e2
  sep := fun j k ω1 ω2 g g' q ne e1 e2 e3 => by
    rcases get_set1 e1 with ⟨a1, _, _⟩ | ⟨_, e1⟩
    · rcases get_set1 e2 with ⟨a2, _, _⟩ | ⟨_, e2⟩
      · exact absurd (a1.symm.trans a2) ne
      · subst a1
        exact hh.sep _ k ω ω2 f g' q ne h e2 e3
    · rcases get_set1 e2 with ⟨a2, _, _⟩ | ⟨_, e2⟩
      · subst a2
        exact hh.sep j _ ω1 ω g f q ne e1 h e3
      · exact hh.sep j k ω1 ω2 g g' q ne e1 e2 e3
theorem grs_re {f : S → ω.τ.α} {f' : S → ω'.τ.α} (sm : Same F H) (h : Δ[i]? = some (.ow ω f)) : GrS mus Δ σ (Δ.set i (.ow ω' f')) σ F H F H where
  ff := Same.refl F
  fh := sm
  fresh := fun a o e => .inl e
  keep := fun a o e _ => e
  dom := fun a e => e
  own := fun a ⟨j, ω2, g, e1, e2⟩ => by
    rcases get_set1 e1 with ⟨a1, _, _⟩ | ⟨_, e1⟩
    · subst a1; exact .inl ⟨_, ω, f, h, e2⟩
    · exact .inl ⟨j, ω2, g, e1, e2⟩
  mu := fun _ _ => rfl
theorem own_some (nv : ∀ {F : Hp} {v : V} {x : τ.α}, τ.rep F v x → v ≠ .non) {F : Hp} {u : HO} {xs : List τ.α} (h : (oList τ).own F u xs) : (oList (tOpt τ)).own F u (xs.map some) := by
  obtain ⟨vs, e, p, z⟩ := h
  refine ⟨vs, e, ?_, by rw [List.length_map]; exact z⟩
  clear e z
  induction p with
  | nil => exact .nil
  | cons r _ ih => exact .cons ⟨nv r, r⟩ ih
theorem DR.some (i : Nat) {f : S → List τ.α} {g : S → R} (nv : ∀ {F : Hp} {v : V} {x : τ.α}, τ.rep F v x → v ≠ .non) (h : Δ[i]? = Option.some (.ow (oList τ) f)) (hb : DR K X fm (Δ.set i (.ow (oList (tOpt τ)) fun s => (f s).map Option.some)) sts cs g) : DR K X fm Δ sts cs g := by
  obtain ⟨t, p, r⟩ := hb
  refine ⟨t, p, fun s F H σ hh sm hc D q => ?_⟩
  have g := grs_re (mus := musOf 0 fm.ps) (ω' := oList (tOpt τ)) (f' := fun s => (f s).map Option.some) (σ := σ) sm h
  exact r s F H σ (hh.re h fun u w => own_some nv w) sm hc D (q.back g)
theorem DN.some (i : Nat) {f : S → List τ.α} (nv : ∀ {F : Hp} {v : V} {x : τ.α}, τ.rep F v x → v ≠ .non) (h : Δ[i]? = Option.some (.ow (oList τ) f)) (hb : DN K X mus (Δ.set i (.ow (oList (tOpt τ)) fun s => (f s).map Option.some)) sts cs Δ1) : DN K X mus Δ sts cs Δ1 := by
  obtain ⟨t, p, r⟩ := hb
  refine ⟨t, p, fun s F H σ hh sm hc D q => ?_⟩
  have g := grs_re (mus := mus) (ω' := oList (tOpt τ)) (f' := fun s => (f s).map Option.some) (σ := σ) sm h
  exact r s F H σ (hh.re h fun u w => own_some nv w) sm hc D fun σ1 F1 H1 g1 hh1 => q σ1 F1 H1 (g.trans g1) hh1
theorem DM.some (i : Nat) {f : S → List τ.α} {g : S → Option R} (nv : ∀ {F : Hp} {v : V} {x : τ.α}, τ.rep F v x → v ≠ .non) (h : Δ[i]? = Option.some (.ow (oList τ) f)) (hb : DM K X fm (Δ.set i (.ow (oList (tOpt τ)) fun s => (f s).map Option.some)) sts cs g Δ1) : DM K X fm Δ sts cs g Δ1 := by
  obtain ⟨t, p, r⟩ := hb
  refine ⟨t, p, fun s F H σ hh sm hc D q1 q2 => ?_⟩
  have g := grs_re (mus := musOf 0 fm.ps) (ω' := oList (tOpt τ)) (f' := fun s => (f s).map Option.some) (σ := σ) sm h
  exact r s F H σ (hh.re h fun u w => own_some nv w) sm hc D (fun x e => (q1 x e).back g) fun e σ1 F1 H1 g1 hh1 => q2 e σ1 F1 H1 (g.trans g1) hh1
end
end Dx

/-! Dx, part d: an own list lent to a statement. -/
namespace Dx
open PySem PySem.Spec PyProof PyProof.Rows L2
section
variable {K : PySem.W.Frag} {X : Cx} {S : Type} {Δ Δ1 : Ctx K S} {ω : OTy K} {i : Nat} {mus : List Nat} {st : Stmt} {cs : List (S → Prop)}
def LfSlot : Slot K S → Prop
  | .dead => True
  | .fz τ _ => LF τ
  | .ow ω _ => LFo ω
/-- each slot behind the statement holds no list, or is one that stayed -/
inductive Lends (js : List Nat) (i : Nat) : Nat → Ctx K S → Ctx K S → Prop
  | nil {k : Nat} : Lends js i k [] []
  | self {Δ Δ1 : Ctx K S} {a b : Slot K S} (t : Lends js i (i + 1) Δ Δ1) : Lends js i i (a :: Δ) (b :: Δ1)
  | lf {k : Nat} {Δ Δ1 : Ctx K S} {a b : Slot K S} (h : LfSlot b) (t : Lends js i (k + 1) Δ Δ1) : Lends js i k (a :: Δ) (b :: Δ1)
  | stay {k : Nat} {Δ Δ1 : Ctx K S} {τ : Ty K} {f : S → τ.α} (h : k ∈ js) (t : Lends js i (k + 1) Δ Δ1) : Lends js i k (.fz τ f :: Δ) (.fz τ f :: Δ1)
theorem Lends.at_ {js : List Nat} {i : Nat} : ∀ {k : Nat} {Δ Δ1 : Ctx K S}, Lends js i k Δ Δ1 → ∀ (j : Nat) (sl : Slot K S), Δ1[j]? = some sl → k + j = i ∨ LfSlot sl ∨ (k + j ∈ js ∧ ∃ (τ : Ty K) (f : S → τ.α), sl = .fz τ f ∧ Δ[j]? = some (.fz τ f))
  | _, _, _, .nil, j, sl, e => by simp at e
  | _, _, _, .self t, 0, sl, e => .inl rfl
  | _, _, _, .self t, j + 1, sl, e => by
    have := t.at_ j sl e
    rwa [show i + (j + 1) = i + 1 + j by omega]
  | _, _, _, .lf h t, 0, sl, e => by
    have e' : _ = sl := Option.some.inj e
    subst e'
    exact .inr (.inl h)
  | k, _, _, .lf h t, j + 1, sl, e => by
    have := t.at_ j sl e
    rwa [show k + (j + 1) = k + 1 + j by omega]
  | _, _, _, .stay h t, 0, sl, e => by
    have e' : _ = sl := Option.some.inj e
    subst e'
    exact .inr (.inr ⟨h, _, _, rfl, rfl⟩)
  | k, _, _, .stay h t, j + 1, sl, e => by
    have := t.at_ j sl e
    rwa [show k + (j + 1) = k + 1 + j by omega]
end
end Dx

/-! Dx, part e: dict(pairs) of ints, d[k]. -/
namespace Dx
open PySem PySem.Spec PyProof PyProof.Rows L2
section
variable {X : Cx} {pins : List (Addr × Obj)} {σ : L2.St} {H : Hp} {s : Shared}
end
/-! ### dicts of ints as maps -/
section
variable {K : PySem.W.Frag}
end
section
variable {K : PySem.W.Frag} {X : Cx} {S : Type} {Δ Δ1 Δ2 : Ctx K S} {e a b : Expr} {pos px : Pos} {ms m1 m2 : List Nat} {c1 c2 : List (S → Prop)} {ta tb : TE} {k : Nat}
end
end Dx

/-! Dx, part f: a, b = list; for x in (a, b). -/
namespace Dx
open PySem PySem.Spec PyProof PyProof.Rows L2
section
variable {K : PySem.W.Frag}
end
section
variable {K : PySem.W.Frag} {X : Cx} {S : Type} {Δ Δ1 : Ctx K S} {e tg : Expr} {pos : Pos} {τ : Ty K} {ts : List (Ty K)} {ms : List Nat} {c1 : List (S → Prop)} {ta : TE}
end
end Dx

/-! Dx, part g: a comprehension in a comprehension. -/
namespace Dx
open PySem PySem.Spec PyProof PyProof.Rows L2
end Dx

/-! Dx, part h: the rest of a body by cases; a rest that is not reached; None as data or None. -/
namespace Dx
open PySem PySem.Spec PyProof PyProof.Rows L2
section
variable {K : PySem.W.Frag} {X : Cx} {S R : Type} {Δ Δ1 : Ctx K S} {sts : List Stmt} {e : Expr} {τ : Ty K} {ms : List Nat} {c1 c2 : List (S → Prop)} {ta : TE} {fm : Fm K R}
end
end Dx

/-! Dx, part i: and, or with effects behind as a value; x in a list of data; the end of a tuple. -/
namespace Dx
open PySem PySem.Spec PyProof PyProof.Rows L2
section
variable {K : PySem.W.Frag} {X : Cx} {S : Type} {Δ Δ1 Δ2 Δ3 : Ctx K S} {a b : Expr} {rest : List Expr} {pos p2 : Pos} {τ : Ty K} {ω : OTy K} {m1 m2 ms : List Nat} {c1 c2 c3 : List (S → Prop)} {ta tb : TE}
/-! #### x in a list of data -/
section
variable {k : Nat} {d : DF τ.α} {ga : S → τ.α} {gb : S → List τ.α}
end
/-! #### a == b == c -/
section
variable {k : Nat} {d : DF τ.α} {fa fb fc : S → τ.α} {tc : TE} {c : Expr}
end
/-! #### the end of a tuple -/
end
end Dx

/-! Dx, part j: x not in a list of data. -/
namespace Dx
open PySem PySem.Spec PyProof PyProof.Rows L2
section
variable {K : PySem.W.Frag} {X : Cx} {S : Type} {Δ Δ1 Δ2 Δ3 : Ctx K S} {a b : Expr} {rest : List Expr} {pos p2 : Pos} {τ : Ty K} {ω : OTy K} {m1 m2 ms : List Nat} {c1 c2 c3 : List (S → Prop)} {ta tb : TE}
section
variable {k : Nat} {d : DF τ.α} {ga : S → τ.α} {gb : S → List τ.α}
end
end
end Dx

/-! Dx, part k: while. -/
namespace Dx
open PySem PySem.Spec PyProof.Rows L2
/-- the turns of a while, at most n -/
def whileF {M : Type} (c : M → Bool) (step : M → M) : Nat → M → M
  | 0, m => m
  | n + 1, m => if c m = true then whileF c step n (step m) else m
def whileC {M : Type} (ct : M → Prop) (c : M → Bool) (cb : M → Prop) (step : M → M) : Nat → M → Prop
  | 0, _ => False
  | n + 1, m => ct m ∧ (c m = true → cb m ∧ whileC ct c cb step n (step m))
def whileR {M R : Type} (c : M → Bool) (r : M → Option R) (step : M → M) : Nat → M → Option R
  | 0, _ => none
  | n + 1, m => if c m = true then (match r m with | some v => some v | none => whileR c r step n (step m)) else none
def whileCr {M R : Type} (ct : M → Prop) (c : M → Bool) (cb : M → Prop) (r : M → Option R) (step : M → M) : Nat → M → Prop
  | 0, _ => False
  | n + 1, m => ct m ∧ (c m = true → cb m ∧ (r m = none → whileCr ct c cb r step n (step m)))
/-- more turns than any while here has -/
abbrev turns : Nat := 1000000
@[irreducible] def LoopW {M : Type} (c : M → Bool) (step : M → M) (m : M) : M := whileF c step turns m
@[irreducible] def LoopWR {M R : Type} (c : M → Bool) (r : M → Option R) (step : M → M) (m : M) : Option R := whileR c r step turns m
theorem LoopW_eq {M : Type} (c : M → Bool) (step : M → M) (m : M) : LoopW c step m = whileF c step turns m := by unfold LoopW; rfl
theorem LoopWR_eq {M R : Type} (c : M → Bool) (r : M → Option R) (step : M → M) (m : M) : LoopWR c r step m = whileR c r step turns m := by unfold LoopWR; rfl
section
variable {K : PySem.W.Frag} {X : Cx} {S M R : Type} {fm : Fm K R} {Δ : Ctx K S} {Δl : Ctx K (S × M)} {body : List Stmt} {c : Expr} {pos : Pos} {Δe : Ctx K ((S × M) × Unit)} {mus : List Nat} {ct cb : List ((S × M) × Unit → Prop)} {tx : TT} {init : S → M} {step : (S × M) × Unit → M} {h : (S × M) × Unit → Bool}
theorem DS.while_ (n : Nat) (h0 : Head init Δ Δl) (ht : DT K X (Δl.comap Prod.fst) c [] ct (Δl.comap Prod.fst) h tx) (hb : DN K X mus (Δl.comap Prod.fst) body cb Δe) (hk : Back step Δe Δl)
    (hp : PassesOwn (model X.prog X.w) X.A X.env X.xe := by exact PassesOwn.never) :
    DS K X mus Δ (.While c body [] pos) [fun s => whileC (fun m => Conj ct ((s, m), ())) (fun m => h ((s, m), ())) (fun m => Conj cb ((s, m), ())) (fun m => step ((s, m), ())) n (init s)] (Δl.comap fun s => (s, whileF (fun m => h ((s, m), ())) (fun m => step ((s, m), ())) n (init s))) := by
  obtain ⟨_, pt, rt⟩ := ht
  obtain ⟨tb, pb, rb⟩ := hb
  refine ⟨_, ps_while hp pt pb, fun s F H σ hh sm hcs D q => ?_⟩
  obtain ⟨k2, _⟩ := hcs
  have hl := (h0.as s).holds hh
  have gl : GrS mus Δ σ Δl σ F H F H := (GrS.refl sm).as (h0.as s)
  refine ⟨fun k σ' H' => ∃ m F', whileF (fun m => h ((s, m), ())) (fun m => step ((s, m), ())) k m = whileF (fun m => h ((s, m), ())) (fun m => step ((s, m), ())) n (init s) ∧ whileC (fun m => Conj ct ((s, m), ())) (fun m => h ((s, m), ())) (fun m => Conj cb ((s, m), ())) (fun m => step ((s, m), ())) k m ∧
    Holds Δl (s, m) F' H' σ' ∧ GrS mus Δ σ Δl σ' F H F' H', ⟨n, init s, F, rfl, k2, hl, gl⟩, ?_⟩
  rintro k σ' H' ⟨m, F', ef, ec, hh', g'⟩
  cases k with
  | zero => exact ec.elim
  | succ k =>
    have hh2 : Holds (Δl.comap Prod.fst) ((s, m), ()) F' H' σ' := comap_holds hh'
    refine rt ((s, m), ()) F' H' σ' hh2 g'.fh ec.1 _ fun F1 H1 g1 hh1 => ?_
    rw [msAt_nil] at g1
    have gA : GrS mus Δ σ Δl σ' F H F1 H1 := g'.grow g1
    have gB : GrS mus Δl σ' (Δl.comap Prod.fst : Ctx K ((S × M) × Unit)) σ' F1 H1 F1 H1 := ⟨⟨Same.refl F1, g1.fh, fun _ _ e => .inl e, fun _ _ e _ => e, fun _ e => e⟩, fun a z => .inl (comap_own.mp z), fun k _ => rfl⟩
    by_cases hc : h ((s, m), ()) = true
    · rw [if_pos hc]
      refine ⟨fun σ2 H2 => ∃ F2, Holds Δl (s, step ((s, m), ())) F2 H2 σ2 ∧ GrS mus Δ σ Δl σ2 F H F2 H2, fun σ2 H2 ⟨F2, y1, y2⟩ => ⟨k, Nat.lt_succ_self k, _, F2, ?_, (ec.2 hc).2, y1, y2⟩, ?_⟩
      · rw [← ef]
        show _ = if h ((s, m), ()) = true then _ else _
        rw [if_pos hc]
      · refine rb ((s, m), ()) F1 H1 σ' hh1 g1.fh (ec.2 hc).1 _ fun σ4 F4 H4 g4 hh4 => ?_
        exact ⟨F4, (hk.as ((s, m), ())).holds hh4, ((gA.trans gB).trans g4).as (hk.as ((s, m), ()))⟩
    · rw [if_neg hc]
      have ef' : m = whileF (fun m => h ((s, m), ())) (fun m => step ((s, m), ())) n (init s) := by
        rw [← ef]
        show m = if h ((s, m), ()) = true then _ else _
        rw [if_neg hc]
      have hl1 : Holds Δl (s, m) F1 H1 σ' := hh'.grow g1
      rw [ef'] at hl1
      exact q σ' F1 H1 (gA.shape (fun _ => Iff.rfl) fun a z => comap_own.mp z) (comap_holds (g := fun s => (s, whileF (fun m => h ((s, m), ())) (fun m => step ((s, m), ())) n (init s))) hl1)
theorem DSm.while_ (n : Nat) {r : (S × M) × Unit → Option R} (h0 : Head init Δ Δl) (ht : DT K X (Δl.comap Prod.fst) c [] ct (Δl.comap Prod.fst) h tx) (hb : DM K X fm (Δl.comap Prod.fst) body cb r Δe) (hk : Back step Δe Δl)
    (hp : PassesOwn (model X.prog X.w) X.A X.env X.xe := by exact PassesOwn.never) :
    DSm K X fm Δ (.While c body [] pos) [fun s => whileCr (fun m => Conj ct ((s, m), ())) (fun m => h ((s, m), ())) (fun m => Conj cb ((s, m), ())) (fun m => r ((s, m), ())) (fun m => step ((s, m), ())) n (init s)] (fun s => whileR (fun m => h ((s, m), ())) (fun m => r ((s, m), ())) (fun m => step ((s, m), ())) n (init s)) (Δl.comap fun s => (s, whileF (fun m => h ((s, m), ())) (fun m => step ((s, m), ())) n (init s))) := by
  obtain ⟨_, pt, rt⟩ := ht
  obtain ⟨tb, pb, rb⟩ := hb
  refine ⟨_, ps_while hp pt pb, fun s F H σ hh sm hcs D q1 q2 => ?_⟩
  obtain ⟨k2, _⟩ := hcs
  have hl := (h0.as s).holds hh
  have gl : GrS (musOf 0 fm.ps) Δ σ Δl σ F H F H := (GrS.refl sm).as (h0.as s)
  refine ⟨fun k σ' H' => ∃ m F', whileF (fun m => h ((s, m), ())) (fun m => step ((s, m), ())) k m = whileF (fun m => h ((s, m), ())) (fun m => step ((s, m), ())) n (init s) ∧ whileR (fun m => h ((s, m), ())) (fun m => r ((s, m), ())) (fun m => step ((s, m), ())) k m = whileR (fun m => h ((s, m), ())) (fun m => r ((s, m), ())) (fun m => step ((s, m), ())) n (init s) ∧
    whileCr (fun m => Conj ct ((s, m), ())) (fun m => h ((s, m), ())) (fun m => Conj cb ((s, m), ())) (fun m => r ((s, m), ())) (fun m => step ((s, m), ())) k m ∧
    Holds Δl (s, m) F' H' σ' ∧ GrS (musOf 0 fm.ps) Δ σ Δl σ' F H F' H', ⟨n, init s, F, rfl, rfl, k2, hl, gl⟩, ?_⟩
  rintro k σ' H' ⟨m, F', ef, er, ec, hh', g'⟩
  cases k with
  | zero => exact ec.elim
  | succ k =>
    have hh2 : Holds (Δl.comap Prod.fst) ((s, m), ()) F' H' σ' := comap_holds hh'
    refine rt ((s, m), ()) F' H' σ' hh2 g'.fh ec.1 _ fun F1 H1 g1 hh1 => ?_
    rw [msAt_nil] at g1
    have gA : GrS (musOf 0 fm.ps) Δ σ Δl σ' F H F1 H1 := g'.grow g1
    have gB : GrS (musOf 0 fm.ps) Δl σ' (Δl.comap Prod.fst : Ctx K ((S × M) × Unit)) σ' F1 H1 F1 H1 := ⟨⟨Same.refl F1, g1.fh, fun _ _ e => .inl e, fun _ _ e _ => e, fun _ e => e⟩, fun a z => .inl (comap_own.mp z), fun k _ => rfl⟩
    have gC := gA.trans gB
    by_cases hc : h ((s, m), ()) = true
    · rw [if_pos hc]
      refine ⟨fun σ2 H2 => r ((s, m), ()) = none ∧ ∃ F2, Holds Δl (s, step ((s, m), ())) F2 H2 σ2 ∧ GrS (musOf 0 fm.ps) Δ σ Δl σ2 F H F2 H2, fun σ2 H2 ⟨y0, F2, y1, y2⟩ => ⟨k, Nat.lt_succ_self k, _, F2, ?_, ?_, (ec.2 hc).2 y0, y1, y2⟩, ?_⟩
      · rw [← ef]
        show _ = if h ((s, m), ()) = true then _ else _
        rw [if_pos hc]
      · rw [← er]
        show _ = if h ((s, m), ()) = true then _ else _
        rw [if_pos hc]
        simp only [y0]
      · refine rb ((s, m), ()) F1 H1 σ' hh1 g1.fh (ec.2 hc).1 _ (fun y ey => ?_) fun ey σ4 F4 H4 g4 hh4 => ?_
        · have e1 : whileR (fun m => h ((s, m), ())) (fun m => r ((s, m), ())) (fun m => step ((s, m), ())) n (init s) = some y := by
            rw [← er]
            show (if h ((s, m), ()) = true then _ else _) = _
            rw [if_pos hc]
            simp only [ey]
          exact fun v5 F5 H5 g5 ro mo => q1 y e1 v5 F5 H5 (GrR.after gC g5) (ro.dom fun _ => Fresh.back gC) (mo.congr fun j h => gC.mu j h)
        · exact ⟨ey, F4, (hk.as ((s, m), ())).holds hh4, (gC.trans g4).as (hk.as ((s, m), ()))⟩
    · rw [if_neg hc]
      have ef' : m = whileF (fun m => h ((s, m), ())) (fun m => step ((s, m), ())) n (init s) := by
        rw [← ef]
        show m = if h ((s, m), ()) = true then _ else _
        rw [if_neg hc]
      have er' : whileR (fun m => h ((s, m), ())) (fun m => r ((s, m), ())) (fun m => step ((s, m), ())) n (init s) = none := by
        rw [← er]
        show (if h ((s, m), ()) = true then _ else _) = _
        rw [if_neg hc]
      have hl1 : Holds Δl (s, m) F1 H1 σ' := hh'.grow g1
      rw [ef'] at hl1
      exact q2 er' σ' F1 H1 (gA.shape (fun _ => Iff.rfl) fun a z => comap_own.mp z) (comap_holds (g := fun s => (s, whileF (fun m => h ((s, m), ())) (fun m => step ((s, m), ())) n (init s))) hl1)
theorem DS.whileH (h0 : Head init Δ Δl) (ht : DT K X (Δl.comap Prod.fst) c [] ct (Δl.comap Prod.fst) h tx) (hb : DN K X mus (Δl.comap Prod.fst) body cb Δe) (hk : Back step Δe Δl)
    (hp : PassesOwn (model X.prog X.w) X.A X.env X.xe := by exact PassesOwn.never) :
    DS K X mus Δ (.While c body [] pos) [fun s => whileC (fun m => Conj ct ((s, m), ())) (fun m => h ((s, m), ())) (fun m => Conj cb ((s, m), ())) (fun m => step ((s, m), ())) turns (init s)] (Δl.comap fun s => (s, LoopW (fun m => h ((s, m), ())) (fun m => step ((s, m), ())) (init s))) := by
  rw [show (fun s => (s, LoopW (fun m => h ((s, m), ())) (fun m => step ((s, m), ())) (init s))) = fun s => (s, whileF (fun m => h ((s, m), ())) (fun m => step ((s, m), ())) turns (init s)) from funext fun s => by rw [LoopW_eq]]
  exact DS.while_ turns h0 ht hb hk hp
theorem DSm.whileH {r : (S × M) × Unit → Option R} (h0 : Head init Δ Δl) (ht : DT K X (Δl.comap Prod.fst) c [] ct (Δl.comap Prod.fst) h tx) (hb : DM K X fm (Δl.comap Prod.fst) body cb r Δe) (hk : Back step Δe Δl)
    (hp : PassesOwn (model X.prog X.w) X.A X.env X.xe := by exact PassesOwn.never) :
    DSm K X fm Δ (.While c body [] pos) [fun s => whileCr (fun m => Conj ct ((s, m), ())) (fun m => h ((s, m), ())) (fun m => Conj cb ((s, m), ())) (fun m => r ((s, m), ())) (fun m => step ((s, m), ())) turns (init s)] (fun s => LoopWR (fun m => h ((s, m), ())) (fun m => r ((s, m), ())) (fun m => step ((s, m), ())) (init s)) (Δl.comap fun s => (s, LoopW (fun m => h ((s, m), ())) (fun m => step ((s, m), ())) (init s))) := by
  rw [show (fun s => (s, LoopW (fun m => h ((s, m), ())) (fun m => step ((s, m), ())) (init s))) = fun s => (s, whileF (fun m => h ((s, m), ())) (fun m => step ((s, m), ())) turns (init s)) from funext fun s => by rw [LoopW_eq],
    show (fun s => LoopWR (fun m => h ((s, m), ())) (fun m => r ((s, m), ())) (fun m => step ((s, m), ())) (init s)) = fun s => whileR (fun m => h ((s, m), ())) (fun m => r ((s, m), ())) (fun m => step ((s, m), ())) turns (init s) from funext fun s => by rw [LoopWR_eq]]
  exact DSm.while_ turns h0 ht hb hk hp
end
/-! ### bits; x //= e and the like -/
section
variable {K : PySem.W.Frag} {X : Cx} {S : Type} {Δ Δ1 Δ2 : Ctx K S} {e a b : Expr} {pos : Pos} {m1 m2 mus : List Nat} {c1 c2 : List (S → Prop)} {ta tb : TE} {i : Nat} {x : Str} {fa fb : S → Int}
end
end Dx

/-! Dx, part l: list(range(n)), the place of a thing in a list. -/
namespace Dx
open PySem PySem.Spec PyProof PyProof.Rows L2
section
variable {K : PySem.W.Frag} {X : Cx} {S : Type} {Δ Δ1 Δ2 : Ctx K S} {e a b : Expr} {pos px apos : Pos} {τ : Ty K} {ms m1 m2 : List Nat} {c1 c2 : List (S → Prop)} {ta tb : TE} {i : Nat} {x : Str} {k : Nat} {d : DF τ.α}
end
end Dx

/-! Dx, part m: len(set(ints)), dict(pairs) as a row of keys. -/
namespace Dx
open PySem PySem.Spec PyProof PyProof.Rows L2
section
variable {X : Cx}
end
section
variable {K : PySem.W.Frag} {X : Cx} {S : Type} {Δ Δ1 : Ctx K S} {e : Expr} {pos px pos2 px2 : Pos} {τ L : Ty K} {ms : List Nat} {c1 : List (S → Prop)} {ta : TE}
/-! ### dict(pairs): its keys -/
end
end Dx

/-! Dx, part n: [elt for x in xs for y in ys]; tuples of one and of two as tuples of any length. -/
namespace Dx
open PySem PySem.Spec PyProof PyProof.Rows L2
section
variable {K : PySem.W.Frag} {S : Type}
end
section
variable {K : PySem.W.Frag} {X : Cx} {S : Type} {Δ Δ1 : Ctx K S} {tg iter tg1 iter1 elt : Expr} {pos : Pos} {τ τ1 τe : Ty K} {ms is is1 vs vs1 : List Nat} {c1 : List (S → Prop)} {te : TE}
/-! ### displays of one and two, as tuples of any length -/
end
end Dx

/-! Dx, part o: dicts from ints to values of one type, as rows of pairs. -/
namespace Dx
open PySem PySem.Spec PyProof PyProof.Rows L2
section
variable {K : PySem.W.Frag}
def KVs (τ : Ty K) (F : Hp) (kvs : List (Key × V)) (xs : List (Int × τ.α)) : Prop := Paired (fun (kv : Key × V) (p : Int × τ.α) => kv.1 = .inl p.1 ∧ τ.rep F kv.2 p.2) kvs xs
def getP {α : Type} (xs : List (Int × α)) (k : Int) : Option α := (xs.find? fun p => decide (p.1 = k)).map (·.2)
def putP {α : Type} (xs : List (Int × α)) (k : Int) (x : α) : List (Int × α) := if k ∈ xs.map (·.1) then xs.map (fun p => if p.1 = k then (p.1, x) else p) else xs ++ [(k, x)]
theorem KVs.mono {τ : Ty K} {F F' : Hp} {kvs : List (Key × V)} {xs : List (Int × τ.α)} (h : Same F F') (r : KVs τ F kvs xs) : KVs τ F' kvs xs := paired_mono (fun _ _ z => ⟨z.1, τ.mono h z.2⟩) r
theorem KVs.keys {τ : Ty K} {F : Hp} : ∀ {kvs : List (Key × V)} {xs : List (Int × τ.α)}, KVs τ F kvs xs → KeysOf kvs (xs.map (·.1))
  | _, _, .nil => rfl
  | _, _, .cons (a := kv) (b := p) h t => by
    have := KVs.keys (τ := τ) (F := F) t
    unfold KeysOf at this ⊢
    rw [List.map_cons, List.map_cons, List.map_cons, this, h.1]
theorem KVs.get {τ : Ty K} {F : Hp} (k : Int) : ∀ {kvs : List (Key × V)} {xs : List (Int × τ.α)}, KVs τ F kvs xs → (valV kvs (.inl k) = none ∧ getP xs k = none) ∨ ∃ v x, valV kvs (.inl k) = some v ∧ getP xs k = some x ∧ τ.rep F v x
  | _, _, .nil => .inl ⟨rfl, rfl⟩
  | _, _, .cons (a := kv) (b := p) h t => by
    by_cases e : p.1 = k
    · refine .inr ⟨kv.2, p.2, valV_pos (by rw [h.1, e]), ?_, h.2⟩
      unfold getP
      rw [List.find?_cons, decide_eq_true e]
      rfl
    · have e2 : ¬ kv.1 = .inl k := by rw [h.1]; exact fun z => e (Sum.inl.inj z)
      have e3 : ∀ l, getP (p :: l) k = getP l k := fun l => by
        unfold getP
        rw [List.find?_cons, decide_eq_false e]
      rw [valV_neg e2, e3]
      exact KVs.get k t
theorem KVs.put {τ : Ty K} {F : Hp} {kvs : List (Key × V)} {xs : List (Int × τ.α)} {v : V} {x : τ.α} (r : KVs τ F kvs xs) (k : Int) (h : τ.rep F v x) : KVs τ F (putK kvs (.inl k) v) (putP xs k x) := by
  unfold putK putP
  rw [keys_any r.keys]
  by_cases m : k ∈ xs.map (·.1)
  · rw [if_pos (decide_eq_true m), if_pos m]
    clear m
    induction r with
    | nil => exact .nil
    | @cons kv p _ _ q t ih =>
      rw [List.map_cons, List.map_cons]
      refine .cons ?_ ih
      by_cases e : p.1 = k
      · rw [if_pos (by rw [q.1, e]), if_pos e]; exact ⟨q.1, h⟩
      · rw [if_neg (by rw [q.1]; exact fun z => e (Sum.inl.inj z)), if_neg e]; exact q
  · rw [if_neg (by rw [decide_eq_false m]; exact Bool.false_ne_true), if_neg m]
    exact paired_app r (.cons ⟨rfl, h⟩ .nil)
/-- a dict that stays as it is -/
abbrev tMpL (τ : Ty K) : Ty K := ⟨List (Int × τ.α), fun F v xs => ∃ a o kvs, v = .ref a ∧ F a = some (.frz o (.dK kvs)) ∧ KVs τ F kvs xs ∧ xs.length ≤ sizeLine, fun h ⟨a, o, kvs, e1, e2, e3, e4⟩ => ⟨a, o, kvs, e1, h _ _ e2, e3.mono h, e4⟩⟩
end
section
variable {K : PySem.W.Frag} {X : Cx} {S : Type} {Δ Δ1 Δ2 : Ctx K S} {e a b tg : Expr} {pos px p2 : Pos} {τ : Ty K} {ms m1 m2 mus : List Nat} {cs c1 c2 : List (S → Prop)} {ta tb : TE} {i : Nat} {x : Str} {k : Nat}
end
/-! ### an own dict, locked from a statement on -/
end Dx
namespace L2
open PySem PySem.Spec PyProof PyProof.Rows
end L2
namespace Dx
open PySem PySem.Spec PyProof PyProof.Rows L2
section
variable {K : PySem.W.Frag} {X : Cx} {S R : Type} {fm : Fm K R} {Δ Δ1 : Ctx K S} {τ : Ty K} {mus : List Nat} {cs : List (S → Prop)} {i : Nat} {sts : List Stmt}
end
section
variable {K : PySem.W.Frag} {X : Cx} {S : Type} {Δ Δ1 Δ2 : Ctx K S} {e a b tg : Expr} {pos : Pos} {τ : Ty K} {ms m1 m2 : List Nat} {cs c1 c2 : List (S → Prop)} {ta tb : TE} {k : Nat}
theorem walks_mp {F0 F1 : Hp} {d : Addr} {o : Obj} {kvs : List (Key × V)} {xs : List (Int × τ.α)} (h : F0 d = some (.frz o (.dK kvs))) (hk : KVs τ F1 kvs xs) (z : xs.length ≤ sizeLine) : Walks K (Itk d o kvs) F0 (tInt K) (xs.map (·.1)) :=
  walks_keys h hk.keys (by rw [List.length_map]; exact z)
/-- for k in d -/
theorem DI.mp {f : S → List (Int × τ.α)} (he : DX K X Δ e (tMpL τ) ms cs Δ1 f ta) : DI K X Δ tg e (tInt K) ms cs Δ1 (fun s => (f s).map (·.1)) (iKeys ta) := by
  obtain ⟨d1, p, r⟩ := he
  refine ⟨d1, pi_keys p, fun s F H σ hh sm hc R q => r s F H σ hh sm hc _ fun v F1 H1 g1 hh1 ⟨d, o, kvs, ev, hd, hk, hz⟩ => ?_⟩
  exact ⟨d, o, ev, .inl ⟨kvs, g1.fh _ _ hd, q _ F1 H1 g1 hh1 (walks_mp hd hk hz)⟩⟩
end
end Dx

/-! Dx, part p: sorted lists of tuples of plain data. -/
namespace L2
open PySem PySem.Spec PyProof PyProof.Rows
open PySem.W (AllAlike Sortable dataLe EachIs)
section
variable {X : Cx}
end
end L2
namespace Dx
open PySem PySem.Spec PyProof PyProof.Rows L2
open PySem.W (AllAlike Sortable dataLe)
section
variable {K : PySem.W.Frag} {X : Cx} {S : Type} {Δ Δ1 Δ2 : Ctx K S} {e : Expr} {pos px : Pos} {τ L : Ty K} {ms : List Nat} {c1 : List (S → Prop)} {ta : TE} {k : Nat}
end
end Dx

/-! Dx, part q: sorted(dict of ints). -/
namespace L2
open PySem PySem.Spec PyProof PyProof.Rows
section
variable {P : Program} {w : World} {A : Around} {E : Value → Shared → Prop} {s : Shared}
end
end L2
namespace L2
open PySem PySem.Spec PyProof PyProof.Rows
section
variable {X : Cx}
end
end L2
namespace Dx
open PySem PySem.Spec PyProof PyProof.Rows L2
section
variable {K : PySem.W.Frag} {X : Cx} {S : Type} {Δ Δ1 Δ2 : Ctx K S} {e : Expr} {pos px : Pos} {ms : List Nat} {c1 : List (S → Prop)} {ta : TE}
end
end Dx

/-! Dx, part r: dict comprehensions with values, d.get(k, x), sorted(dict). -/
namespace Dx
open PySem PySem.Spec PyProof PyProof.Rows L2
section
variable {K : PySem.W.Frag} {X : Cx} {S R : Type} {Δ Δ1 Δ2 Δ3 : Ctx K S} {st : Stmt} {e a b c d f tg iter kx vx : Expr} {es ifs : List Expr} {pos px p' apos cpos : Pos} {τ τe τ1 τ2 L : Ty K} {ω ω1 ω2 : OTy K} {mus ms m1 m2 m3 is vs : List Nat} {c1 c2 c3 cs : List (S → Prop)} {ta tb tc tk te tx : TE} {tt : TT} {tl : TA} {i j k : Nat} {x y : Str}
end
end Dx

/-! Dx, part s: lists of one's own within a list of one's own, made, changed and handed back in one block. -/
namespace Dx
open PySem PySem.Spec PyProof PyProof.Rows L2
section
variable {K : PySem.W.Frag}
/-- rows of one's own: a list of lists, all of them new since H0 -/
structure RowsOk (τ : Ty K) (H0 F H : Hp) (D : Addr) (as : List Addr) (rows : List (List τ.α)) : Prop where
  top : H D = some (.lst (as.map V.ref))
  nD : F D = none
  oD : H0 D = none
  len : as.length = rows.length
  nd : as.Nodup
  dn : D ∉ as
  row : ∀ (k : Nat) (a : Addr), as[k]? = some a → F a = none ∧ H0 a = none ∧ ∃ vs xs, H a = some (.lst vs) ∧ rows[k]? = some xs ∧ Paired (τ.rep F) vs xs ∧ xs.length ≤ sizeLine
theorem gr_out {F H F' H' : Hp} {a : Addr} {o : HO} (g : Gr No F H F' H') (n : F a = none) (e : H a = some o) : F' a = none ∧ H' a = some o := by
  refine ⟨?_, g.same _ _ e⟩
  cases z : F' a with
  | none => rfl
  | some u =>
    rcases g.fresh a u z with w | w
    · rw [n] at w; cases w
    · rw [e] at w; cases w
theorem RowsOk.grow {τ : Ty K} {H0 F H F' H' : Hp} {D : Addr} {as : List Addr} {rows : List (List τ.α)} (r : RowsOk τ H0 F H D as rows) (g : Gr No F H F' H') : RowsOk τ H0 F' H' D as rows where
  top := (gr_out g r.nD r.top).2
  nD := (gr_out g r.nD r.top).1
  oD := r.oD
  len := r.len
  nd := r.nd
  dn := r.dn
  row := fun k a e => by
    obtain ⟨n, o, vs, xs, h1, h2, h3, h4⟩ := r.row k a e
    obtain ⟨n', e'⟩ := gr_out g n h1
    exact ⟨n', o, vs, xs, e', h2, paired_mono (fun _ _ q => τ.mono g.ff q) h3, h4⟩
theorem RowsOk.add {τ : Ty K} {H0 F H : Hp} {D p : Addr} {as : List Addr} {rows : List (List τ.α)} {vs : List V} {xs : List τ.α} (r : RowsOk τ H0 F H D as rows) (hp : H p = some (.lst vs)) (hD : p ≠ D) (ha : p ∉ as) (n : F p = none) (o : H0 p = none) (pr : Paired (τ.rep F) vs xs) (z : xs.length ≤ sizeLine) :
    RowsOk τ H0 F (upd H D (.lst (as.map V.ref ++ [V.ref p]))) D (as ++ [p]) (rows ++ [xs]) where
  top := by rw [upd_same, List.map_append]; rfl
  nD := r.nD
  oD := r.oD
  len := by rw [List.length_append, List.length_append, r.len]; rfl
  nd := List.nodup_append.mpr ⟨r.nd, List.nodup_cons.mpr ⟨List.not_mem_nil, List.nodup_nil⟩, fun a m b m' e => by
    rw [List.mem_singleton] at m'
    exact ha (by rw [← m', ← e]; exact m)⟩
  dn := fun h => (List.mem_append.mp h).elim r.dn fun h => hD (List.mem_singleton.mp h).symm
  row := fun k a e => by
    by_cases hk : k < as.length
    · rw [List.getElem?_append_left hk] at e
      obtain ⟨n', o', vs', xs', h1, h2, h3, h4⟩ := r.row k a e
      refine ⟨n', o', vs', xs', ?_, ?_, h3, h4⟩
      · rw [upd_ne (fun z => r.dn (by rw [← z]; exact List.mem_of_getElem? e))]; exact h1
      · rw [List.getElem?_append_left (by rw [← r.len]; exact hk)]; exact h2
    · rw [List.getElem?_append_right (by omega)] at e
      have hk2 : k - as.length = 0 := by
        have := (List.getElem?_eq_some_iff.mp e).1
        simp at this
        omega
      rw [hk2] at e
      cases e
      refine ⟨n, o, vs, xs, by rw [upd_ne hD]; exact hp, ?_, pr, z⟩
      rw [List.getElem?_append_right (by rw [← r.len]; omega), ← r.len, hk2]
      rfl
/-- the rows are frozen: a list of one's own of lists that stay -/
theorem paired_of {α β : Type} {R : α → β → Prop} : ∀ {xs : List α} {ys : List β}, xs.length = ys.length → (∀ (k : Nat) (x : α), xs[k]? = some x → ∃ y, ys[k]? = some y ∧ R x y) → Paired R xs ys
  | [], [], _, _ => .nil
  | [], _ :: _, h, _ => by cases h
  | _ :: _, [], h, _ => by cases h
  | x :: xs, y :: ys, h, q => by
    obtain ⟨y', e, r⟩ := q 0 x rfl
    cases e
    exact .cons r (paired_of (by simpa using h) fun k x' e => q (k + 1) x' e)
theorem RowsOk.done {τ : Ty K} {H0 F0 F H : Hp} {D : Addr} {as : List Addr} {rows : List (List τ.α)} (r : RowsOk τ H0 F H D as rows) (g : Gr No F0 H0 F H) :
    ∃ F1, Gr No F0 H0 F1 H ∧ F1 D = none ∧ Paired ((tList τ).rep F1) (as.map V.ref) rows := by
  have h1 : Same F (fun b => if b ∈ as then H b else F b) := fun b o e => by
    by_cases h : b ∈ as
    · obtain ⟨k, hk⟩ := List.getElem?_of_mem h
      rw [(r.row k b hk).1] at e; cases e
    · simp only [if_neg h]; exact e
  refine ⟨fun b => if b ∈ as then H b else F b, gr_mk g.same (g.ff.trans h1) (fun b o e => ?_) (fun b o e => ?_), ?_, ?_⟩
  · by_cases h : b ∈ as
    · simp only [if_pos h] at e; exact e
    · simp only [if_neg h] at e; exact g.fh _ _ e
  · by_cases h : b ∈ as
    · obtain ⟨k, hk⟩ := List.getElem?_of_mem h
      exact .inr (r.row k b hk).2.1
    · simp only [if_neg h] at e; exact g.fresh b o e
  · simp only [if_neg r.dn]; exact r.nD
  · refine paired_of (by rw [List.length_map]; exact r.len) fun k x e => ?_
    rw [List.getElem?_map] at e
    obtain ⟨a, ea, ex⟩ := Option.map_eq_some_iff.mp e
    obtain ⟨_, _, vs, xs, q1, q2, q3, q4⟩ := r.row k a ea
    refine ⟨xs, q2, a, vs, ex.symm, ?_, paired_mono (fun _ _ q => τ.mono h1 q) q3, q4⟩
    simp only [if_pos (List.mem_of_getElem? ea)]; exact q1
end
section
variable {K : PySem.W.Frag} {X : Cx} {S : Type} {Δ Δ1 Δ2 : Ctx K S} {tg iter elt : Expr} {τ τ1 : Ty K} {ms is vs : List Nat} {c1 c2 c3 cs : List (S → Prop)}
end
section
variable {K : PySem.W.Frag} {X : Cx} {S R : Type} {fm : Fm K R} {Δ : Ctx K S} {tst tg iter tg2 iter2 ee ep : Expr} {τ τ1 : Ty K} {is1 is2 : List Nat} {c0 c1 c2 : List (S → Prop)} {px p1 p2 p3 p4 p5 p6 lpos spos apos cpos epos fpos rpos : Pos} {x : Str} {i : Nat}
end
end Dx

/-! Dx, part t: the sum of lists of lists. -/
namespace Dx
open PySem PySem.Spec PyProof PyProof.Rows L2
open Sem (wp)
section
variable {prog : Program} {w : World} {A : Around} {R : Result → Shared → Prop}
end
section
variable {prog : Program} {w : World} {A : Around} {E : Value → Shared → Prop} {s : Shared}
end
section
variable {X : Cx} {K : PySem.W.Frag} {S : Type} {Δ Δ1 : Ctx K S} {a : Expr} {pos px p1 : Pos} {τ : Ty K} {ms : List Nat} {c1 : List (S → Prop)} {ta : TE}
theorem foldl_len : ∀ (vss : List (List V)) (zs : List V), (vss.foldl (· ++ ·) zs).length = zs.length + (vss.map List.length).sum
  | [], zs => by simp
  | v :: vss, zs => by
    rw [List.foldl_cons, foldl_len vss, List.length_append, List.map_cons, List.sum_cons]; omega
end
end Dx

/-! Dx, part u: tuples of any length, more. -/
namespace Dx
open PySem PySem.Spec PyProof PyProof.Rows L2
section
variable {K : PySem.W.Frag} {X : Cx} {S : Type} {Δ Δ1 Δ2 : Ctx K S} {e a b : Expr} {pos px apos : Pos} {τ : Ty K} {ms m1 m2 : List Nat} {c1 c2 : List (S → Prop)} {ta tb : TE} {i : Nat} {x : Str} {k : Nat}
open PySem.W (AllAlike Sortable dataLe)
end
end Dx

/-! Dx, part v: rows of one's own that grow at their end. -/
namespace Dx
open PySem PySem.Spec PyProof PyProof.Rows L2
section
variable {K : PySem.W.Frag} {X : Cx} {S : Type} {Δ : Ctx K S} {τ : Ty K}
end
section
variable {K : PySem.W.Frag} {X : Cx} {S R : Type} {fm : Fm K R} {Δ : Ctx K S} {tst tg iter e1 e2 ep : Expr} {τ : Ty K} {is : List Nat} {c1 : List (S → Prop)} {px p1 p2 p3 p4 p5 p6 p7 spos apos cpos epos apos2 cpos2 epos2 ipos fpos rpos : Pos} {x : Str} {i : Nat}
end
end Dx

/-! Dx, part w: sorted lists of lists. -/
namespace Dx
open PySem PySem.Spec PyProof PyProof.Rows L2
open PySem.W (AllAlike Sortable dataLe)
section
variable {K : PySem.W.Frag} {X : Cx} {S : Type} {Δ Δ1 Δ2 : Ctx K S} {e a b : Expr} {pos px apos : Pos} {τ : Ty K} {ms m1 m2 : List Nat} {c1 c2 : List (S → Prop)} {ta tb : TE} {i : Nat} {x : Str} {k : Nat}
end
end Dx

/-! Dx, part x: data of any kind whose lists and tuples are plain (so that it can be taken back to its type); the empty dict among them. -/
namespace Dx
open PySem PySem.Spec PyProof PyProof.Rows L2
mutual
inductive Ex (F : Hp) : V → PyData → Prop
  | non : Ex F .non .none
  | bl (b : Bool) : Ex F (.bl b) (.bool b)
  | int (i : Int) : Ex F (.int i) (.int i)
  | str (x : Str) : PyData.strOk x = true → Ex F (.str x) (.str x)
  | lst {a : Addr} {xs : List V} {ds : List PyData} : F a = some (.lst xs) → ds.length ≤ sizeLine → ExAll F xs ds → Ex F (.ref a) (.list ds)
  | tup {a : Addr} {xs : List V} {ds : List PyData} : F a = some (.tup xs) → ds.length ≤ sizeLine → ExAll F xs ds → Ex F (.ref a) (.tuple ds)
  | dct {a : Addr} : F a = some (.dK []) → Ex F (.ref a) (.dict [])
inductive ExAll (F : Hp) : List V → List PyData → Prop
  | nil : ExAll F [] []
  | cons {v : V} {vs : List V} {d : PyData} {ds : List PyData} : Ex F v d → ExAll F vs ds → ExAll F (v :: vs) (d :: ds)
end
mutual
theorem ex_mono {F F' : Hp} (h : Same F F') : ∀ (d : PyData) (v : V), Ex F v d → Ex F' v d
  | .none, _, r => by cases r; exact .non
  | .bool b, _, r => by cases r; exact .bl b
  | .int b, _, r => by cases r; exact .int b
  | .str b, _, r => by cases r; exact .str b (by assumption)
  | .list ds, _, r => by
    cases r with
    | lst s z a => exact .lst (h _ _ s) z (exAll_mono h ds _ a)
  | .tuple ds, _, r => by
    cases r with
    | tup s z a => exact .tup (h _ _ s) z (exAll_mono h ds _ a)
  | .dict kvs, _, r => by
    cases r with
    | dct e => exact .dct (h _ _ e)
theorem exAll_mono {F F' : Hp} (h : Same F F') : ∀ (ds : List PyData) (vs : List V), ExAll F vs ds → ExAll F' vs ds
  | [], _, r => by cases r; exact .nil
  | d :: ds, _, r => by
    cases r with
    | cons a b => exact .cons (ex_mono h d _ a) (exAll_mono h ds _ b)
end
section
variable {K : PySem.W.Frag}
/-- plain data of any kind, at most n deep -/
abbrev tEx (K : PySem.W.Frag) (n : Nat) : Ty K := ⟨PyData, fun F v d => Ex F v d ∧ d.depth ≤ n, fun h r => ⟨ex_mono h _ _ r.1, r.2⟩⟩
/-- the data of a type, told exactly -/
structure DatX {K : PySem.W.Frag} (τ : Ty K) (d : DF τ.α) : Prop where
  dat : Dat τ d
  ex : ∀ {F : Hp} {v : V} {x : τ.α}, τ.rep F v x → Ex F v (d.toD x)
/-! #### back to a type -/
/-- a thing is what a type tells -/
structure BackD {K : PySem.W.Frag} (τ : Ty K) (n : Nat) (ok : PyData → Bool) (g : PyData → τ.α) : Prop where
  back : ∀ {F : Hp} {v : V} {d : PyData}, Ex F v d → d.depth ≤ n → ok d = true → τ.rep F v (g d)
/-! #### what is asked of a thing -/
end
/-! #### repr of a thing -/
section
variable {X : Cx} {pins : List (Addr × Obj)} {σ : L2.St} {H : Hp} {s : Shared}
end
section
variable {K : PySem.W.Frag} {X : Cx} {S R : Type} {Δ Δ1 Δ2 : Ctx K S} {e a b : Expr} {es : List Expr} {pos px p2 p' : Pos} {τ : Ty K} {ms m1 m2 : List Nat} {c1 c2 cs : List (S → Prop)} {ta tb : TE} {i n m k : Nat}
/-- taken back to a type, under what was tested ahead -/
theorem DX.back {ok : PyData → Bool} {g : PyData → τ.α} {f : S → PyData} (h : BackD τ n ok g) (he : DX K X Δ e (tEx K n) ms cs Δ1 f ta) : DX K X Δ e τ ms (cs ++ [fun s => ok (f s) = true]) Δ1 (fun s => g (f s)) ta :=
  ⟨he.1, he.2.1, fun s F H σ hh sm hc Q q => by
    obtain ⟨h1, h2⟩ := conj_app hc
    exact he.2.2 s F H σ hh sm h1 Q fun v F1 H1 g hh1 r => q v F1 H1 g hh1 (h.back r.1 r.2 h2.1)⟩
end
section
variable {K : PySem.W.Frag} {X : Cx} {S R : Type} {Δ Δ1 Δ2 : Ctx K S} {e a b : Expr} {es : List Expr} {pos px p2 p' : Pos} {τ : Ty K} {ms m1 m2 : List Nat} {c1 c2 cs : List (S → Prop)} {ta tb : TE} {i n m k : Nat}
end
/-! #### d in (x, y): texts; a text in a list of texts -/
section
variable {K : PySem.W.Frag} {X : Cx} {S R : Type} {Δ Δ1 Δ2 : Ctx K S} {e a b : Expr} {pos : Pos} {m1 m2 : List Nat} {c1 c2 : List (S → Prop)} {ta tb : TE} {n k : Nat} {f : S → PyData} {g : S → Str × Str}
end
/-! #### a text in a list of texts -/
section
variable {K : PySem.W.Frag} {X : Cx} {S R : Type} {Δ Δ1 Δ2 : Ctx K S} {e a b : Expr} {pos : Pos} {m1 m2 : List Nat} {c1 c2 : List (S → Prop)} {ta tb : TE} {n k : Nat} {f : S → Str} {g : S → List Str}
end
end Dx

/-! Dx, part y: x[a], x[b] = e1, e2. -/
namespace Dx
open PySem PySem.Spec PyProof PyProof.Rows L2
section
variable {K : PySem.W.Frag} {X : Cx} {S R : Type} {Δ Δ1 Δ2 : Ctx K S} {e a b b2 : Expr} {pos px px2 p2 p' p3 : Pos} {τ : Ty K} {ms mus : List Nat} {c1 c2 c3 : List (S → Prop)} {ta tb tb2 : TE} {i : Nat} {x : Str}
end
end Dx

/-! Dx, part z: what raises, try .. except X as e, calls in an except suite. -/
namespace Dx
open PySem PySem.Spec PyProof PyProof.Rows L2
open PySem.HandSPX in
section
variable {K : PySem.W.Frag} {X : Cx} {S R : Type} {fm : Fm K R} {Δ Δ1 Δ2 Δa Δb Δj : Ctx K S} {st : Stmt} {sts rest : List Stmt} {e a b c : Expr} {es : List Expr} {pos p' apos : Pos} {τ : Ty K} {mus ms m1 m2 : List Nat} {c1 c2 cs : List (S → Prop)} {tx : TT} {q q1 q2 : S → Prop} {C : Value}
/-- a statement that raises, an instance of C; the slots stand as before -/
def RT (K : PySem.W.Frag) (X : Cx) (Δ : Ctx K S) (st : Stmt) (q : S → Prop) (C : Value) : Prop :=
  ∀ W, L2N.Takes X W → ∃ t : TS, PS X st t ∧ ∀ s F H σ, Holds Δ s F H σ → Same F H → q s → (∀ F1 H1, Gr No F H F1 H1 → W C none σ H1) → ∀ D, t D σ H
/-- a block that raises -/
def RS (K : PySem.W.Frag) (X : Cx) (Δ : Ctx K S) (sts : List Stmt) (q : S → Prop) (C : Value) : Prop :=
  ∀ W, L2N.Takes X W → ∃ t : TS, PSs X sts t ∧ ∀ s F H σ, Holds Δ s F H σ → Same F H → q s → (∀ σ1 F1 H1, GrR Δ σ F H F1 H1 → W C none σ1 H1) → ∀ D, t D σ H
/-- an expression that raises -/
def RX (K : PySem.W.Frag) (X : Cx) (Δ : Ctx K S) (e : Expr) (q : S → Prop) (C : Value) : Prop :=
  ∀ W, L2N.Takes X W → ∃ t : TE, PE X e t ∧ ∀ s F H σ, Holds Δ s F H σ → Same F H → q s → (∀ F1 H1, Gr No F H F1 H1 → W C none σ H1) → ∀ Q, t σ H Q
theorem psOr {X : Cx} {st : Stmt} {t u : TS} (h : PS X st t) (k : PS X st u) : PS X st (fun D σ H => t D σ H ∨ u D σ H) :=
  ⟨fun pins s σ H D I z => z.elim (fun z => h.run pins s σ H D I z) fun z => k.run pins s σ H D I z⟩
theorem pssOr {X : Cx} {sts : List Stmt} {t u : TS} (h : PSs X sts t) (k : PSs X sts u) : PSs X sts (fun D σ H => t D σ H ∨ u D σ H) :=
  ⟨fun pins s σ H D I z => z.elim (fun z => h.run pins s σ H D I z) fun z => k.run pins s σ H D I z⟩
theorem RT.or (h : RT K X Δ st q1 C) (k : RT K X Δ st q2 C) : RT K X Δ st (fun s => q1 s ∨ q2 s) C := fun W tk => by
  obtain ⟨t, p, r⟩ := h W tk
  obtain ⟨u, p2, r2⟩ := k W tk
  exact ⟨_, psOr p p2, fun s F H σ hh sm hq w D => hq.elim (fun z => .inl (r s F H σ hh sm z w D)) fun z => .inr (r2 s F H σ hh sm z w D)⟩
theorem RS.or (h : RS K X Δ sts q1 C) (k : RS K X Δ sts q2 C) : RS K X Δ sts (fun s => q1 s ∨ q2 s) C := fun W tk => by
  obtain ⟨t, p, r⟩ := h W tk
  obtain ⟨u, p2, r2⟩ := k W tk
  exact ⟨_, pssOr p p2, fun s F H σ hh sm hq w D => hq.elim (fun z => .inl (r s F H σ hh sm z w D)) fun z => .inr (r2 s F H σ hh sm z w D)⟩
theorem RT.imp (h : RT K X Δ st q C) (k : ∀ s, q1 s → q s) : RT K X Δ st q1 C := fun W tk => by
  obtain ⟨t, p, r⟩ := h W tk
  exact ⟨t, p, fun s F H σ hh sm hq w D => r s F H σ hh sm (k s hq) w D⟩
theorem RS.imp (h : RS K X Δ sts q C) (k : ∀ s, q1 s → q s) : RS K X Δ sts q1 C := fun W tk => by
  obtain ⟨t, p, r⟩ := h W tk
  exact ⟨t, p, fun s F H σ hh sm hq w D => r s F H σ hh sm (k s hq) w D⟩
/-- what comes ahead goes on -/
theorem RS.cons (h1 : DS K X.nox mus Δ st c1 Δ1) (h2 : RS K X Δ1 sts q C) : RS K X Δ (st :: sts) (fun s => Conj c1 s ∧ q s) C := fun W tk => by
  obtain ⟨t1, p1, r1⟩ := h1
  obtain ⟨t2, p2, r2⟩ := h2 W tk
  have p1' : PS X st t1 := ⟨fun pins s σ H D I z => wpAny_mono (p1.run pins s σ H D (I.wish _) z) (fun f s1 q => by
    cases f with
    | next => obtain ⟨σ', H', J, q⟩ := q; exact ⟨σ', H', J.wish _, q⟩
    | ret u => obtain ⟨v, σ', H', J, r, q⟩ := q; exact ⟨v, σ', H', J.wish _, r, q⟩
    | brk => obtain ⟨σ', H', J, q⟩ := q; exact ⟨σ', H', J.wish _, q⟩
    | cont => obtain ⟨σ', H', J, q⟩ := q; exact ⟨σ', H', J.wish _, q⟩) fun e s1 z => z.elim⟩
  refine ⟨_, pss_cons p1' p2, fun s F H σ hh sm hq w D => ?_⟩
  exact r1 s F H σ hh sm hq.1 _ fun σ1 F1 H1 g hh1 => r2 s F1 H1 σ1 hh1 g.fh hq.2 (fun σ2 F2 H2 g2 => w σ2 F2 H2 (GrR.after g g2)) D
/-- raise X('m') -/
theorem RT.raise {Ca : Addr} {bmB : List Value} {B newId initId : String} {x m : Str} {j : Nat} {p p2 p3 : Pos} (F : ExcBaseFacts B newId initId bmB) (k1 : PySem.W.excIn X.K Ca bmB newId = true) (gC : X.mg x = some (.ref Ca)) (kC : PySem.W.keepIn X.K (.ref Ca) = true)
    (h1 : PySem.W.subIn X.K (.ref Ca) (.type "BaseException") = some true) (h2 : PySem.W.typeIn X.K (.ref Ca) = some (.type "type")) (hc : X.calm = true := by rfl) (hg : Gl X x := by rfl) (hdb : (x == ("__debug__" : Str)) = false := by decide) :
    RT K X Δ (.Raise (some (.Call (.Name x p) [.Constant (.str m) j p2] [] p3)) none pos) (fun _ => True) (.ref Ca) := fun W tk =>
  ⟨_, L2N.ps_raise hc tk (L2N.pmk_own F k1 gC kC (raises_own h1 h2) hg hdb), fun s F H σ hh sm _ w D => w F H (Gr.refl sm)⟩
theorem RT.expr (he : RX K X Δ e q C) (hs : swapsWith e none pos.line X.env = pure false := by rfl) : RT K X Δ (.Expr e pos) q C := fun W tk => by
  obtain ⟨t, p, r⟩ := he W tk
  exact ⟨_, ps_expr p hs, fun s F H σ hh sm hq w D => r s F H σ hh sm hq w _⟩
def SpR {R : Type} (fm : Fm K R) (q : HP fm.ps → Prop) (C : Value) : Sp := fun vs H _ E => ∃ (F : Hp) (s : HP fm.ps), Holds (ctx0 fm.ps) s F H (vs.map some) ∧ Same F H ∧ q s ∧ ∀ F1 H1, Gr No F H F1 H1 → E C none H1
theorem SpR.len {R : Type} {fm : Fm K R} {q : HP fm.ps → Prop} {C : Value} (vs : List V) (H : Hp) (Q : VK) (E : XK) (h : SpR fm q C vs H Q E) : vs.length = fm.ps.length := by
  obtain ⟨F, s, h, _⟩ := h
  have := h.len
  rw [List.length_map, ctx0_length] at this
  exact this
theorem FnG.or {P : Program} {w : World} {mg : Str → Option Value} {base : Heap} {CX : CXT} {k : Nat} {f : Addr} {fd : FuncData} {ps : List Str} {sp1 sp2 : Sp} (h : FnG P w K mg base CX k f fd ps sp1) (g : FnG P w K mg base CX k f fd ps sp2) : FnG P w K mg base CX k f fd ps (fun vs H Q E => sp1 vs H Q E ∨ sp2 vs H Q E) :=
  ⟨fun vs H Q E z => z.elim (h.len vs H Q E) (g.len vs H Q E), fun A outer s H args us vs Q E hr e0 hb rv z => z.elim (h.run A outer s H args us vs Q E hr e0 hb rv) (g.run A outer s H args us vs Q E hr e0 hb rv)⟩
/-- the call of a def that may raise, at the slots -/
theorem pe_callgS {CX : CXT} {k : Nat} {f : Addr} {fd : FuncData} {ps : List Str} {sp : Sp} {E : L2.St → XK} {x : Str} {p : Pos} {t : TA} (G : FnG X.prog X.w X.K X.mg X.base CX k f fd ps sp) (hr : RoomG k X.A) (hg : Gl X x) (hm : X.mg x = some (.ref f)) (hk : PySem.W.keepIn X.K (.ref f) = true) (hb : Binds X.K fd ps []) (hx : ∀ σ, PassesAt CX X σ (E σ))
    (ha : PA X (e :: es) t) (hdb : (x == ("__debug__" : Str)) = false := by decide) (he : starEach (e :: es) X.env = (false, eval e X.env) :: starEach es X.env := by rfl) (hpl : (backTo pos (starEach es X.env)).any (·.1) = false := by rfl) :
    PE X (.Call (.Name x p) (e :: es) [] pos) (tCallS sp E t) := by
  refine ⟨fun pins s σ H Q I h => wpAny_Call_Name_kw (ld_glob I hg hm ?_ hdb)⟩
  refine PySem.W.callWith_K (h₀ := X.base) I.ok.mod.kin hk (thn (ha.run pos pins s σ H _ I h) fun us s1 ⟨vs, H1, I1, r, q⟩ => ⟨I1.kIn, ?_⟩) he hpl
  have hl : (us ++ ([] : List Value)).length = ps.length := by rw [List.append_nil, ← r.length]; exact G.len _ _ _ _ q
  have hbd := hb s1 us I1.kIn hl
  rw [List.append_nil] at hbd
  refine wpAny_call (codeAny_mono (G.run X.A X.stack s1 H1 ⟨us, []⟩ us vs Q (E σ) hr I1.env0 hbd r q) fun res s' hq => ?_)
  cases res with
  | error e => exact hx σ pins H1 s1 e s' I1 hq
  | ok fl => cases fl with
    | ret u => exact I1.after hq
    | next => exact hq.elim
    | brk => exact hq.elim
    | cont => exact hq.elim
theorem RX.call {x : Str} {k : Nat} {f : Addr} {fd : FuncData} {ps : List Str} {R' : Type} {fm : Fm K R'} {qf : HP fm.ps → Prop} {as : List (AK K S)} {g : S → HP fm.ps} {px : Pos} {t : TA} (G : FnG X.prog X.w X.K X.mg X.base (L2N.CX X.prog X.w) k f fd ps (SpR fm qf C)) (hr : RoomG k X.A) (hm : X.mg x = some (.ref f)) (hk : PySem.W.keepIn X.K (.ref f) = true) (hb : Binds X.K fd ps [])
    (ha : DA K X Δ (e :: es) [] c1 Δ as t) (har : Ar Δ as fm.ps g) (hnd : (lent as).Nodup) (hg : Gl X x := by rfl) (hdb : (x == ("__debug__" : Str)) = false := by decide) (he : starEach (e :: es) X.env = (false, eval e X.env) :: starEach es X.env := by rfl) (hpl : (backTo pos (starEach es X.env)).any (·.1) = false := by rfl) :
    RX K X Δ (.Call (.Name x px) (e :: es) [] pos) (fun s => Conj c1 s ∧ qf (g s)) C := fun W tk => by
  obtain ⟨d1, pa, ra⟩ := ha
  refine ⟨_, pe_callgS G hr hg hm hk hb (L2N.passAt tk) pa hdb he hpl, fun s F H σ hh sm hq w Q => ?_⟩
  refine ra s F H σ hh sm hq.1 _ fun vs F1 H1 g1 hh1 r1 => ?_
  rw [msAt_nil] at g1
  obtain ⟨w1, _⟩ := har.holds hh1 g1.fh r1 hnd
  exact ⟨F1, g s, w1, g1.fh, hq.2, fun F2 H2 g2 => w F2 H2 (g1.trans g2)⟩
end
section
variable {K : PySem.W.Frag} {X : Cx} {S R : Type} {fm : Fm K R} {Δ Δ0 Δ1 Δ2 Δa Δb Δj : Ctx K S} {st : Stmt} {sts rest : List Stmt} {e a b c : Expr} {es : List Expr} {pos p' apos : Pos} {τ : Ty K} {mus ms m1 m2 : List Nat} {c0 c1 c2 cs : List (S → Prop)} {tx : TT} {ta : TE} {q q1 q2 : S → Prop} {C : Value}
/-- x = e, where e raises -/
theorem RT.asg {x : Str} {i : Nat} {px : Pos} (he : RX K X Δ e q C) (hN : X.N.Nodup) (hi : X.N[i]? = some x) (hx : Loc X.env.scope x) (hf : X.fn x = true ∨ X.env.scope.names.lookup x = some .local := by first | exact .inl rfl | exact .inr rfl | assumption) (hs : swapsWithSole [.Name x px] e pos.line X.env = pure false := by rfl) (hw : swappedStores [.Name x px] e X.env = pure none := by rfl)
    (h1 : (assignEach [.Name x px] X.env).map (·.2) = [assign (.Name x px) X.env] := by rfl) : RT K X Δ (.Assign [.Name x px] e pos) q C := fun W tk => by
  obtain ⟨t, p, r⟩ := he W tk
  exact ⟨_, ps_asg p (pg_name hN hi hx hf) hs hw h1, fun s F H σ hh sm hq w D => r s F H σ hh sm hq w _⟩
theorem GrS.put {T : Type} {Δ : Ctx K S} {Δ1 : Ctx K T} {σ σ1 : L2.St} {F H F1 H1 : Hp} {i : Nat} {o : Option V} {f : T → τ.α} (g : GrS mus Δ σ Δ1 σ1 F H F1 H1) (hi : i ∉ mus) : GrS mus Δ σ (Δ1.set i (.fz τ f)) (σ1.set i o) F H F1 H1 :=
  { g.toGrR with
    own := fun a ⟨j, ω, f, e1, e2⟩ => by
      rcases get_set1 e1 with ⟨_, z, _⟩ | ⟨n, e1⟩
      · cases z
      · rw [List.getElem?_set_ne n] at e2
        exact g.own a ⟨j, ω, f, e1, e2⟩
    mu := fun k h => by rw [List.getElem?_set_ne (fun (e : i = k) => hi (by rw [e]; exact h))]; exact g.mu k h }
/-! #### where an exception is handled -/
/-- what a def promises that is called with the handled exception, an instance of the class at D -/
structure FnE (P : Program) (w : World) (K : PySem.W.Frag) (mg : Str → Option Value) (base : Heap) (D : Addr) (k : Nat) (f : Addr) (fd : FuncData) (ps : List Str) (sp : Addr → Sp) : Prop where
  len : ∀ a vs H Q E, sp a vs H Q E → vs.length = ps.length
  run : ∀ (A : Around) (outer : List Env) (s : Shared) (H : Hp) (args : Args) (us : List Value) (vs : List V) (Q : VK) (E : XK) (p : Addr × Obj), L2H.RoomH k A → L2H.Hot1 A p → Zc (.ref D) none p.2 → L2H.PinOk outer H s p → Env0 P w K mg base A outer s H → BindsTo s fd args (ps.zip us) → Vals vs us → sp p.1 vs H Q E →
    codeAny (model P w) A (.call (.ref f) args) (CR CX0 outer P w H s Q E) s
theorem FnE.mono {P : Program} {w : World} {mg : Str → Option Value} {base : Heap} {D : Addr} {j k : Nat} {f : Addr} {fd : FuncData} {ps : List Str} {sp : Addr → Sp} (F : FnE P w K mg base D j f fd ps sp) (h : j ≤ k) : FnE P w K mg base D k f fd ps sp :=
  ⟨F.len, fun A outer s H args us vs Q E p hr => F.run A outer s H args us vs Q E p (hr.mono h)⟩
end
section
variable {K : PySem.W.Frag} {X : Cx} {S R : Type} {Δ : Ctx K S} {e : Expr} {es : List Expr} {pos : Pos} {τ : Ty K} {c1 : List (S → Prop)}
end
section
variable {K : PySem.W.Frag} {X : Cx} {S : Type} {Δ Δ1 : Ctx K S} {e : Expr} {pos px apos : Pos} {ms : List Nat} {c1 : List (S → Prop)} {ta : TE} {i k : Nat} {x : Str}
end
section
variable {K : PySem.W.Frag} {X : Cx} {S : Type} {Δ Δ1 Δ2 : Ctx K S} {e a b : Expr} {pos px apos : Pos} {τ : Ty K} {ms m1 m2 : List Nat} {c1 c2 : List (S → Prop)} {ta tb : TE} {i : Nat} {x : Str} {k : Nat} {d : DF τ.α}
end
section
variable {K : PySem.W.Frag} {X : Cx} {S : Type} {Δ Δ1 Δ2 : Ctx K S} {a b : Expr} {pos : Pos} {τ : Ty K} {m1 m2 : List Nat} {c1 c2 : List (S → Prop)} {ta tb : TE} {d : DF τ.α} {ga gb : S → τ.α}
end
/-! #### a try whose body may raise errors of more than one class -/
section
variable {K : PySem.W.Frag} {X : Cx} {S : Type} {Δ Δ0 Δ1 Δa Δb Δj : Ctx K S} {st : Stmt} {mus : List Nat} {c0 c1 ca cb : List (S → Prop)} {q : S → Prop}
/-- one way that the body of a try goes, its clause being 'except x as n' (n in slot i) -/
def TA1 (K : PySem.W.Frag) (X : Cx) (mus : List Nat) (Δ : Ctx K S) (st : Stmt) (i : Nat) (cb : Value) (suite : List Stmt) (cs : List (S → Prop)) (Δ1 : Ctx K S) : Prop :=
  ∀ s F H σ, Holds Δ s F H σ → Same F H → Conj cs s → ∀ D : Ends, (∀ σ1 F1 H1, GrS mus Δ σ Δ1 σ1 F H F1 H1 → Holds Δ1 s F1 H1 σ1 → D.nx σ1 H1) →
    ∀ pn xe, L2N.Takes (X.tr pn xe) (wAs X.K cb i (fun a cls d D σ H => ∀ oe pn, L2N.Zn cls d oe → (∃ vs, oe.data = .fields vs) → ∃ t, PSs (X.suite a ((a, oe) :: pn)) suite t ∧ t D σ H) (fun _ _ _ _ => False) D) → ∃ t, PSs (X.tr pn xe) [st] t ∧ t D σ H
theorem TA1.go {i : Nat} {cv : Value} {suite : List Stmt} (hn : ∀ (pn : List (Addr × Obj)) (xe : Value → Shared → Prop), DN K (X.tr pn xe).nox mus Δ [st] c0 Δ0) : TA1 K X mus Δ st i cv suite c0 Δ0 := fun s F H σ hh sm hc D qq pn xe tk => by
  obtain ⟨t, p, r⟩ := hn pn xe
  exact ⟨t, p.nox, r s F H σ hh sm hc D qq⟩
theorem TA1.or {i : Nat} {cv : Value} {suite : List Stmt} {h : S → Bool} (ha : TA1 K X mus Δ st i cv suite ca Δa) (hb : TA1 K X mus Δ st i cv suite cb Δb) (hj : Join h Δa Δb Δj) : TA1 K X mus Δ st i cv suite (guardT h ca ++ guardF h cb) Δj := fun s F H σ hh sm hc D qq pn xe tk => by
  obtain ⟨k1, k2⟩ := conj_app hc
  cases e : h s with
  | true => exact ha s F H σ hh sm (guardT_conj e k1) D (fun σ1 F1 H1 g hh1 => qq σ1 F1 H1 (g.as (hj.yes e)) ((hj.yes e).holds hh1)) pn xe tk
  | false => exact hb s F H σ hh sm (guardF_conj e k2) D (fun σ1 F1 H1 g hh1 => qq σ1 F1 H1 (g.as (hj.no e)) ((hj.no e).holds hh1)) pn xe tk
end
/-! #### the call of a def that is taken out of a list: [f, g][i](..) -/
section
variable {K : PySem.W.Frag} {X : Cx} {S R : Type} {Δ Δa Δb Δj : Ctx K S} {st : Stmt} {e fe : Expr} {es : List Expr} {pos pos2 px : Pos} {mus : List Nat} {c0 c1 ca cb : List (S → Prop)} {tf : TE} {t : TA} {x : Str}
/-- one of the defs fs, by its place -/
def tFn (K : PySem.W.Frag) (fs : List Addr) : Ty K := ⟨Nat, fun _ v i => ∃ a, fs[i]? = some a ∧ v = .ref a, fun _ h => h⟩
theorem DX.fn {fs : List Addr} {f : Addr} (i : Nat) (hi : fs[i]? = some f) (hm : X.mg x = some (.ref f)) (hg : Gl X x := by rfl) (hd : (x == ("__debug__" : Str)) = false := by decide) : DX K X Δ (.Name x px) (tFn K fs) [] [] Δ (fun _ => i) (tC (.ref f)) :=
  ⟨Diff.refl, pe_glob hg hm rfl hd, fun s F H σ hh sm _ Q q => q _ F H (by rw [msAt_nil]; exact Gr.refl sm) hh ⟨f, hi, rfl⟩⟩
end
end Dx

/-! Dy, part a: tuples of any length joined and sliced. -/
namespace Dx
open PySem PySem.Spec PyProof PyProof.Rows L2
section
variable {K : PySem.W.Frag} {X : Cx} {S : Type} {Δ Δ1 Δ2 Δ3 : Ctx K S} {a b : Expr} {pos p2 : Pos} {τ : Ty K} {m1 m2 ms : List Nat} {c1 c2 c3 : List (S → Prop)} {ta tb : TE}
end
section
variable {K : PySem.W.Frag} {X : Cx} {S R : Type} {fm : Fm K R} {Δ Δ0 Δ1 Δ2 : Ctx K S} {e a b c tg iter : Expr} {es body elts : List Expr} {pos p' : Pos} {τ τ1 : Ty K} {ms m1 m2 : List Nat} {c1 c2 cs : List (S → Prop)} {ta : TE} {q : S → Prop} {C : Value}
end
end Dx

/-! Dx, part yb: comprehensions where an exception is handled. -/
namespace Dx
open PySem PySem.Spec PyProof PyProof.Rows L2
open PySem.HandSPX in
section
variable {prog : Program} {w : World} {A : Around} {E : Value → Shared → Prop} {s : Shared}
/-- a list's iterator at its end, an exception being handled -/
theorem list_end_hot {it l x1 : Addr} {i : Nat} {ys : Array Value} {Q : Option Value → Shared → Prop} (hot : HotX.HotAt A x1 s.heap) (st : s.heap.IsListIter it l i) (hl : s.heap.IsList l ys) (hx : ys[i]? = none)
    (hQ : ∀ h', (∀ b o, b ≠ it → s.heap.get? b = some o → h'.get? b = some o) → Q none { s with heap := h' }) (ne : x1 ≠ it) : wpAny (model prog w) A (pyNext (.ref it)) Q E s := by
  obtain ⟨oi, gi, ci, di⟩ := id st
  obtain ⟨ol, gl, _, nl, dl⟩ := hl
  obtain ⟨hh, o1, v1, h1, d1, c1⟩ := hot
  unfold pyNext
  refine wpAny_bind (wpAny_attempt (wpAny_callSpecial?_slot (name := Str.ofString "__next__") st.typeIs slot_listiter_next (wpAny_call_entry slot_listiter_next st.typeIs entry_listiter_next ?_ (args_listiter_next _))))
  show wpAny _ _ (field (.ref it) 0 >>= _) _ _ s
  refine wpAny_bind (wpAny_field gi di (x := .ref l) rfl ?_); show wpAny _ _ (if (Value.ref l == Value.none) = true then _ else _) _ _ s
  rw [if_neg (by intro z; exact Bool.false_ne_true z)]; show wpAny _ _ (field (.ref it) 1 >>= _) _ _ s
  refine wpAny_bind (wpAny_field gi di (x := .int i 0) rfl ?_); show wpAny _ _ (seqItems? (.ref l) >>= _) _ _ s
  refine wpAny_bind (wpAny_seqItems gl dl ?_); simp only [Int.toNat_natCast, hx]
  have h1u : ∀ (f : Obj → Obj), ((s.heap.update it f).get? x1) = some o1 := fun f => by rw [Heap.get?_update_other _ _ (fun z => ne z.symm)]; exact h1
  refine wpAny_bind (wpAny_rule (wpAny_bind (wpAny_setField gi di (by simp) ?_))); show wpAny _ _ (newExc (.type "StopIteration") [] >>= _) _ _ _
  refine wpAny_bind ?_; simp only [newExc, newTuple]
  refine wpAny_bind (wpAny_newObj_type ?_ (by size_fits)); refine wpAny_bind (m := firstArgMember _ _) (wpAny_of_eq (a := Value.none) (by first | rfl | (simp only [firstArgMember]; rfl)) ?_)
  refine wpAny_newObj_type ?_ (by size_fits)
  refine HotX.raiseNew_hot ⟨hh, o1, v1, Heap.get?_push_of_some _ (Heap.get?_push_of_some _ (h1u _)), d1, c1⟩ (Nat.ne_of_lt (Heap.lt_size (Heap.get?_push_of_some _ (h1u _)))) (Heap.get?_push_size _ rfl) rfl (by first | (simp; done) | (simp; omega)) ?_
  refine wpAny_bind (wpAny_isInstance (T := "StopIteration") (b := true) ⟨_, Heap.get?_update_self _ (Heap.get?_push_size _ rfl) rfl, rfl⟩ isSubtype_stop ?_); refine wpAny_pure (hQ _ fun b o nb e => ?_)
  have eu : ∀ (f : Obj → Obj), ((s.heap.update it f).get? b) = some o := fun f => by rw [Heap.get?_update_other _ _ (fun z => nb z.symm)]; exact e
  rw [Heap.get?_update_other _ _ (Nat.ne_of_gt (Heap.lt_size (Heap.get?_push_of_some _ (eu _))))]; exact Heap.get?_push_of_some _ (Heap.get?_push_of_some _ (eu _))
end
theorem turn_listH {P : Program} {w : World} {K : PySem.W.Frag} {tg : Expr} (a it : Addr) : L2H.TurnH P w K tg (Itl K a) [it] it (fun i h => h.IsListIter it a i) where
  mem := List.mem_singleton.mpr rfl
  obj := fun i h st b hb => by
    rw [List.mem_singleton.mp hb]
    obtain ⟨o, e, c, d⟩ := st
    exact ⟨o, e, fun v z => by rw [d] at z; cases z⟩
  keep := fun i h h' st k => st.at fun o e => k it (List.mem_singleton.mpr rfl) o e
  item := by
    intro X hP hw hK _ i pins s σ H E I hf st hs
    subst hP; subst hw; subst hK
    obtain ⟨xs, x, hq, hx⟩ := hs
    obtain ⟨vs, rv, lv, _⟩ := I.list hq
    obtain ⟨u, hu, ru⟩ := rv.get hx
    obtain ⟨f0, f1, f2, f3, f4, f5⟩ := hf it (List.mem_singleton.mpr rfl)
    refine wpAny_pyNext_list_item st lv.isList (x := u) (by simpa using hu) fun h' stn sb => ?_
    obtain ⟨o, e, c, d⟩ := id stn
    have J : Inv X pins σ H { s with heap := h' } := I.turned (t' := s.toks) (fun b o nb z => (sb.2 b nb).trans z) f0 f1 f3 f4 f5
    refine ⟨u, rfl, go_of (s := { s with heap := h' }) e c d (by decide) ⟨x, H, J, ru, ⟨rfl, fun ys hy => ?_⟩, stn, fun b hb => (hf b hb).1⟩⟩
    rw [I.list_inj hy hq]; exact hx
  done := by
    intro X hP hw hK hot i pins s σ H E I hf st hs
    subst hP; subst hw; subst hK
    obtain ⟨xs, hq, hx⟩ := hs
    obtain ⟨vs, rv, lv, _⟩ := I.list hq
    obtain ⟨f0, f1, f2, f3, f4, f5⟩ := hf it (List.mem_singleton.mpr rfl)
    have len := rv.length
    obtain ⟨p, ⟨hh, v1, e1, c1⟩, hp⟩ := hot
    have P1 := I.pin p (List.mem_append_left _ hp)
    exact list_end_hot ⟨hh, p.2, v1, P1.1, e1, c1⟩ st lv.isList (by simp; omega) (fun h' k => ⟨rfl, I.turned (t' := s.toks) k f0 f1 f3 f4 f5⟩) (f5 p (List.mem_append_left _ hp))
  self := fun _ _ _ _ _ st h => wpAny_pyIter_listiter st h
section
variable {X : Cx} {tg : Expr}
theorem pi_listH {l : Expr} {tl : TE} (hl : PE X l tl) : L2H.PIH X tg l (iList X.K tl) := by
  refine ⟨fun pins s σ H R I h => thn (hl.run pins s σ H _ I h) fun v s1 ⟨x, H1, J, rx, a, ex, ⟨xs, hq⟩, hR⟩ => ?_⟩
  subst ex
  cases rx
  obtain ⟨vs, rv, lv, _⟩ := J.list hq
  refine wpAny_pyIter_list lv.isList ?_
  refine ⟨s1.heap.objs.size, [s1.heap.objs.size], _, _, H1, rfl, J.kept (t' := s1.toks) fun b o e => Heap.get?_push_of_some _ e, turn_listH a _, ⟨_, Heap.get?_push_size _ rfl, rfl, rfl⟩, fun b hb => ?_, hR⟩
  rw [List.mem_singleton.mp hb]
  exact J.fpOk (Nat.le_refl _) (J.hok.fresh (Nat.le_refl _))
end
section
variable {K : PySem.W.Frag} {X : Cx} {S R : Type} {fm : Fm K R} {Δ Δ0 Δ1 Δ2 Δa Δb Δj : Ctx K S} {st : Stmt} {sts rest : List Stmt} {e a b c : Expr} {es : List Expr} {pos p' apos : Pos} {τ : Ty K} {mus ms m1 m2 : List Nat} {c0 c1 c2 cs : List (S → Prop)} {tx : TT} {ta : TE} {q q1 q2 : S → Prop} {C : Value}
end
section
variable {K : PySem.W.Frag} {X : Cx} {S : Type} {Δ Δ1 : Ctx K S} {tg e iter elt : Expr} {pos : Pos} {τ τe L : Ty K} {ms is : List Nat} {c1 : List (S → Prop)} {ta te : TE} {tt : TT} {ifs : List Expr}
/-- what is walked, an exception being handled -/
def DIH {S : Type} (K : PySem.W.Frag) (X : Cx) (Δ : Ctx K S) (tg iter : Expr) (τ : Ty K) (ms : List Nat) (cs : List (S → Prop)) (Δ1 : Ctx K S) (f : S → List τ.α) (wi : TI) : Prop :=
  Diff ms Δ Δ1 ∧ L2H.PIH X tg iter wi ∧ ∀ s F H σ, Holds Δ s F H σ → Same F H → Conj cs s → ∀ R : It → Hp → Prop, (∀ J F' H', Gr (MsAt ms σ) F H F' H' → Holds Δ1 s F' H' σ → Walks K J F' τ (f s) → R J H') → wi σ H R
theorem DIH.list {to : L.α → List τ.α} {f : S → L.α} (hl : LL L τ to) (he : DX K X Δ e L ms c1 Δ1 f ta) (hK : X.K = K := by rfl) : DIH K X Δ tg e τ ms c1 Δ1 (fun s => to (f s)) (iList K ta) := by
  obtain ⟨q1, _, q3⟩ := DI.list (tg := tg) hl he hK
  subst hK
  exact ⟨q1, pi_listH he.2.1, q3⟩
theorem DIH.range1 {f : S → Int} {px : Pos} (hm : X.mg "range" = none) (he : DX K X Δ e (tInt K) ms c1 Δ1 f ta) (hg : Gl X "range" := by rfl) (hs : starEach [e] X.env = [(false, eval e X.env)] := by rfl) (hs2 : starEach [e] X.env = (false, eval e X.env) :: starEach [] X.env := by rfl) :
    DIH K X Δ tg (.Call (.Name "range" px) [e] [] pos) (tInt K) ms (c1 ++ [fun s => RgOk (f s)]) Δ1 (fun s => rangeL (f s)) (iRng1 (tCons ta tNil)) := by
  obtain ⟨q1, _, q3⟩ := DI.range1 (tg := tg) (pos := pos) (px := px) hm he hg hs hs2
  exact ⟨q1, L2H.pi_range1H hg hm (pa_cons he.2.1 pa_nil hs2) hs, q3⟩
end
/-! #### a try whose except suite returns -/
section
variable {K : PySem.W.Frag} {X : Cx} {S R : Type} {fm : Fm K R} {Δ Δ1 : Ctx K S} {st : Stmt} {c0 c1 ca cb : List (S → Prop)} {q : S → Prop} {ra rb : S → Option R}
/-- one way that the body goes; r: what is returned by it -/
def TAR (K : PySem.W.Frag) (X : Cx) {R : Type} (fm : Fm K R) (Δ : Ctx K S) (st : Stmt) (i : Nat) (cb : Value) (suite : List Stmt) (cs : List (S → Prop)) (r : S → Option R) (Δ1 : Ctx K S) : Prop :=
  ∀ s F H σ, Holds Δ s F H σ → Same F H → Conj cs s → ∀ D : Ends, (∀ x, r s = some x → Ret fm Δ σ F H x D.rt) → (r s = none → ∀ σ1 F1 H1, GrS (musOf 0 fm.ps) Δ σ Δ1 σ1 F H F1 H1 → Holds Δ1 s F1 H1 σ1 → D.nx σ1 H1) →
    ∀ pn xe, L2N.Takes (X.tr pn xe) (wAs X.K cb i (fun a cls d D σ H => ∀ oe pn, L2N.Zn cls d oe → (∃ vs, oe.data = .fields vs) → ∃ t, PSs (X.suite a ((a, oe) :: pn)) suite t ∧ t D σ H) (fun _ _ _ _ => False) D) → ∃ t, PSs (X.tr pn xe) [st] t ∧ t D σ H
theorem TAR.go {i : Nat} {cv : Value} {suite : List Stmt} (hn : ∀ (pn : List (Addr × Obj)) (xe : Value → Shared → Prop), DN K (X.tr pn xe).nox (musOf 0 fm.ps) Δ [st] c0 Δ1) : TAR K X fm Δ st i cv suite c0 (fun _ => none) Δ1 := fun s F H σ hh sm hc D _ qq pn xe tk => by
  obtain ⟨t, p, r⟩ := hn pn xe
  exact ⟨t, p.nox, r s F H σ hh sm hc D fun σ1 F1 H1 g hh1 => qq rfl σ1 F1 H1 g hh1⟩
theorem TAR.or {i : Nat} {cv : Value} {suite : List Stmt} {h : S → Bool} (ha : TAR K X fm Δ st i cv suite ca ra Δ1) (hb : TAR K X fm Δ st i cv suite cb rb Δ1) : TAR K X fm Δ st i cv suite (guardT h ca ++ guardF h cb) (fun s => if h s = true then ra s else rb s) Δ1 := fun s F H σ hh sm hc D q1 q2 pn xe tk => by
  obtain ⟨k1, k2⟩ := conj_app hc
  cases e : h s with
  | true =>
    dsimp only at q1 q2
    rw [e, if_pos rfl] at q1 q2
    exact ha s F H σ hh sm (guardT_conj e k1) D q1 q2 pn xe tk
  | false =>
    dsimp only at q1 q2
    rw [e, if_neg Bool.false_ne_true] at q1 q2
    exact hb s F H σ hh sm (guardF_conj e k2) D q1 q2 pn xe tk
end
/-! #### f(k = v, ..) that raises -/
section
variable {K : PySem.W.Frag} {X : Cx} {S R' : Type} {Δ Δ1 : Ctx K S} {x : Str} {px pos : Pos} {k : Nat} {f : Addr} {fd : FuncData} {ps kn : List Str} {is : List Nat} {kws : List Keyword} {c1 : List (S → Prop)} {as as' : List (AK K S)} {tk : TA} {fm : Fm K R'} {qf : HP fm.ps → Prop} {g : S → HP fm.ps} {C : Value}
end
end Dx

/-! Dx, part yc: a, b, c = x, y, z with an own list in the middle. -/
namespace Dx
open PySem PySem.Spec PyProof PyProof.Rows L2
section
variable {K : PySem.W.Frag} {X : Cx} {S : Type} {Δ Δ1 Δ2 Δ3 : Ctx K S} {mus m1 m2 m3 : List Nat} {τ τ3 : Ty K} {ω : OTy K} {c1 c2 c3 : List (S → Prop)} {a b c : Expr} {ta tb tc : TE} {x y z : Str} {i j l : Nat} {pos : Pos}
theorem DS.par3 {fa : S → τ.α} {fb : S → ω.τ.α} {fc : S → τ3.α} {px py pz pt : Pos} {kt k2 : Nat} {pt2 : Pos} (ha : DX K X Δ a τ m1 c1 Δ1 fa ta) (hb : DO K X Δ1 b ω m2 c2 Δ2 fb tb) (hc3 : DX K X Δ2 c τ3 m3 c3 Δ3 fc tc) (hm : OwnAll Δ (m1 ++ (m2 ++ m3))) (hN : X.N.Nodup) (hi : X.N[i]? = some x) (hj : X.N[j]? = some y) (hl : X.N[l]? = some z) (hij : i ≠ j) (hil : i ≠ l) (hjl : j ≠ l) (hx : X.env.scope.names.lookup x = some .local) (hy : X.env.scope.names.lookup y = some .local) (hz : X.env.scope.names.lookup z = some .local) (hu : i ∉ mus) (hu2 : j ∉ mus) (hu3 : l ∉ mus)
    (hw : swappedStores [.Tuple [.Name x px, .Name y py, .Name z pz] kt pt] (.Tuple [a, b, c] k2 pt2) X.env = pure (some [x, y, z]) := by rfl) (hc : X.calm = true := by rfl) (hsw : swapsWithSole [.Tuple [.Name x px, .Name y py, .Name z pz] kt pt] (.Tuple [a, b, c] k2 pt2) pos.line X.env = pure false := by rfl)
    (hs : starEach [a, b, c] X.env = (false, eval a X.env) :: starEach [b, c] X.env := by rfl) (hs2 : starEach [b, c] X.env = (false, eval b X.env) :: starEach [c] X.env := by rfl) (hs3 : starEach [c] X.env = (false, eval c X.env) :: starEach [] X.env := by rfl) :
    DS K X mus Δ (.Assign [.Tuple [.Name x px, .Name y py, .Name z pz] kt pt] (.Tuple [a, b, c] k2 pt2) pos) (c1 ++ (c2 ++ c3)) (((Δ3.set i (.fz τ fa)).set j (.ow ω fb)).set l (.fz τ3 fc)) := by
  obtain ⟨d1, p1, r1⟩ := ha
  obtain ⟨d2, p2, r2⟩ := hb
  obtain ⟨d3, p3, r3⟩ := hc3
  refine ⟨_, ps_par3 hc hN hi hj hl hij hil hjl hx hy hz (pa_cons p1 (pa_cons p2 (pa_cons p3 pa_nil hs3) hs2) hs) hw hsw, fun s F H σ hh sm hcs D q => ?_⟩
  obtain ⟨k1, k23⟩ := conj_app hcs
  obtain ⟨k2, k3⟩ := conj_app k23
  refine r1 s F H σ hh sm k1 _ fun v F1 H1 g1 hh1 f1 => r2 s F1 H1 σ hh1 g1.fh k2 _ fun p u F2 H2 g2 hh2 n1 n2 e1 o1 => r3 s F2 H2 σ hh2 g2.fh k3 _ fun w F3 H3 g3 hh3 f3 => ⟨v, .ref p, w, rfl, ?_⟩
  have g23 := (g2.mono (msAt_l (m2 := m3))).trans (g3.mono (msAt_r (m1 := m2)))
  have g123 := (g1.mono (msAt_l (m2 := m2 ++ m3))).trans (g23.mono (msAt_r (m1 := m1)))
  have gs : GrS mus Δ σ Δ3 σ F H F3 H3 := gs0 hm (d1.trans (d2.trans d3)) hh g123
  have hp : H p = none := g1.dom p n1
  have z1 : F3 p = none := by
    cases y0 : F3 p with
    | none => rfl
    | some o =>
      rcases g3.fresh p o y0 with t | t
      · rw [n2] at t; cases t
      · rw [e1] at t; cases t
  have z2 : H3 p = some u := g3.keep _ _ e1 fun ⟨k, hk, e3⟩ => by
    obtain ⟨ω', f', e4⟩ := hm.all k (List.mem_append_right _ (List.mem_append_right _ hk))
    obtain ⟨p', u', e5, _, e6, _⟩ := hh.at_ k _ _ e4 e3
    cases e5
    rw [hp] at e6; cases e6
  have nown : ¬ Own Δ3 σ p := fun ⟨k, ω', f', e1, e2⟩ => ((d1.trans (d2.trans d3)).was hh e1 e2).2 hp
  have hA := hh3.setF (i := i) (τ := τ) (f := fa) (τ.mono (g2.ff.trans g3.ff) f1)
  have hB := hA.setO (i := j) (ω := ω) (f := fb) z1 z2 (ω.mono g3.ff o1) fun ⟨k, ω', f', e1, e2⟩ => by
    rcases get_set1 e1 with ⟨_, z, _⟩ | ⟨n, e1⟩
    · cases z
    · rw [List.getElem?_set_ne n] at e2
      exact nown ⟨k, ω', f', e1, e2⟩
  have hC := hB.setF (i := l) (τ := τ3) (f := fc) f3
  have gA := gs.put (i := i) (o := some v) (f := fa) hu
  have gB : GrS mus Δ σ ((Δ3.set i (.fz τ fa)).set j (.ow ω fb)) ((σ.set i (some v)).set j (some (.ref p))) F H F3 H3 := by
    refine { gs.toGrR with own := fun p' ⟨k, ω', f', e1, e2⟩ => ?_, mu := fun k hk => by rw [List.getElem?_set_ne fun (e : j = k) => hu2 (by rw [e]; exact hk)]; exact gA.mu k hk }
    rcases get_set1 e1 with ⟨rfl, z, hl⟩ | ⟨n, e1⟩
    · rw [List.getElem?_set_self (by rw [hA.len]; exact hl)] at e2
      injection e2 with e2
      injection e2 with e2
      injection e2 with e2
      rw [← e2]
      exact .inr hp
    · rw [List.getElem?_set_ne n] at e2
      exact gA.own p' ⟨k, ω', f', e1, e2⟩
  exact q _ F3 H3 (gB.put (i := l) (o := some w) (f := fc) hu3) hC
/-- a or b, of values -/
def tOrT (K : PySem.W.Frag) (ta tb : TE) : TE := fun σ H Q => ta σ H fun x H1 => ∃ k, TruV K x H1 k ∧ if k = true then Q x H1 else tb σ H1 Q
theorem pe_orT {ta tb : TE} {rest : List Expr} (ha : PE X a ta) (hb : PE X (.BoolOp .Or (b :: rest) pos) tb) : PE X (.BoolOp .Or (a :: b :: rest) pos) (tOrT X.K ta tb) := by
  refine ⟨fun pins s σ H Q I h => ?_⟩
  refine BoolOp_or (thn (ha.run pins s σ H _ I h) fun v s1 ⟨x, H1, I1, r1, q1⟩ => ?_)
  obtain ⟨k, hk, q1⟩ := q1
  refine wpAny_mono (tru_ok (X := X) pins s1 σ H1 x v (fun c H2 => c = k ∧ H2 = H1) I1 r1 ⟨k, hk, rfl, rfl⟩) (fun c s2 hc => ?_) fun _ _ h' => h'
  obtain ⟨H2, I2, e1, e2⟩ := hc
  subst e1
  subst e2
  cases c with
  | false => exact hb.run pins s2 σ _ Q I2 q1
  | true => exact ⟨x, _, I2, r1, q1⟩
theorem DX.one1 {op : BoolOp} {f : S → τ.α} (h : DX K X Δ a τ m1 c1 Δ1 f ta) : DX K X Δ (.BoolOp op [a] pos) τ m1 c1 Δ1 f ta := ⟨h.1, pe_one h.2.1, h.2.2⟩
/-- o or k: of a number or None -/
theorem DX.orO {f : S → Option Int} {g : S → Int} (ha : DX K X Δ a (tOpt (tInt K)) m1 c1 Δ1 f ta) (hb : DX K X Δ1 (.BoolOp .Or [b] pos) (tInt K) [] [] Δ1 g tb) (hK : X.K = K := by rfl) : DX K X Δ (.BoolOp .Or [a, b] pos) (tInt K) m1 c1 Δ1 (fun s => if (f s).getD 0 = 0 then g s else (f s).getD 0) (tOrT K ta tb) := by
  subst hK
  obtain ⟨d1, pa, ra⟩ := ha
  obtain ⟨d2, pb, rb⟩ := hb
  refine ⟨d1, pe_orT pa pb, fun s F H σ hh sm hc Q q => ?_⟩
  refine ra s F H σ hh sm hc _ fun v F1 H1 g1 hh1 r1 => ?_
  have last : (f s).getD 0 = 0 → tb σ H1 Q := fun e => rb s F1 H1 σ hh1 g1.fh trivial Q fun v2 F2 H2 g2 hh2 r2 => by
    rw [msAt_nil] at g2
    exact q v2 F2 H2 (g1.trans g2.of0) hh2 (by show v2 = .int (if (f s).getD 0 = 0 then g s else (f s).getD 0); rw [if_pos e]; exact r2)
  cases e : f s with
  | none =>
    rw [e] at r1
    have r1 : v = .non := r1
    refine ⟨false, by rw [r1]; exact rfl, ?_⟩
    rw [if_neg Bool.false_ne_true]
    exact last (by rw [e]; rfl)
  | some i =>
    rw [e] at r1
    have r1 : v = .int i := r1.2
    refine ⟨i != 0, by rw [r1]; exact rfl, ?_⟩
    by_cases z : i = 0
    · rw [z, if_neg (by decide)]
      exact last (by rw [e, z]; rfl)
    · rw [if_pos (by simpa using z)]
      refine q v F1 H1 g1 hh1 ?_
      show v = .int (if (f s).getD 0 = 0 then g s else (f s).getD 0)
      rw [e]
      show v = .int (if i = 0 then g s else i)
      rw [if_neg z]; exact r1
end
end Dx


set_option maxHeartbeats 4000000
namespace Lw
open PySem PySem.Spec PyProof.Rows L2 Dx
abbrev m_law_cells_S : Type := (List Int) × Int × Unit
def m_law_cells (s : m_law_cells_S) : (List Int) := hide (((cutL s.1 none (some s.2.1)) ++ (repL ([(0 : Int)] : List Int) (b2I (((dfList dfInt)).eq s.1 ([] : List Int))))))
def m_law_cells_p (s : m_law_cells_S) : Prop := Conj [fun s => RepOk ([(0 : Int)] : List Int) (b2I (((dfList dfInt)).eq s.1 ([] : List Int))), fun s => ((cutL s.1 none (some s.2.1))).length + ((repL ([(0 : Int)] : List Int) (b2I (((dfList dfInt)).eq s.1 ([] : List Int))))).length ≤ sizeLine] s
abbrev m_law_cells_fm (K : PySem.W.Frag) : Fm K ((List Int)) := ⟨[.fz (tScr K), .fz (tInt K)], .ow (oList (tInt K)), fun r => r, fun _ => ()⟩
abbrev m_law_source_S : Type := Int × Int × Unit
def m_law_source (s : m_law_source_S) : (List Int) := hide (([(max (0 : Int) (s.1 - ((10 : Int) ^ ((18 : Int)).toNat))), ((((s.1 % (((10 : Int) ^ ((38 : Int)).toNat) + (133 : Int))) ^ ((3 : Int)).toNat) + ((857567 : Int) * s.2.1)) + (223606797749978969 : Int)), (0 : Int)] : List Int))
def m_law_source_p (s : m_law_source_S) : Prop := Conj [fun s => CPowX (10 : Int) (18 : Int), fun s => CPowX (10 : Int) (38 : Int), fun s => CPosM s.1 (((10 : Int) ^ ((38 : Int)).toNat) + (133 : Int)), fun s => CPowX (s.1 % (((10 : Int) ^ ((38 : Int)).toNat) + (133 : Int))) (3 : Int), fun s => CMulX (857567 : Int) s.2.1] s
abbrev m_law_source_fm (K : PySem.W.Frag) : Fm K ((List Int)) := ⟨[.fz (tInt K), .fz (tInt K)], .ow (oList (tInt K)), fun r => r, fun _ => ()⟩
abbrev m_law_draw_S : Type := (List Int) × Int × Unit
def m_law_draw_v_digit_1 (s : m_law_draw_S) : Int := ((ixI (0 : Int) s.1 (0 : Int)) % s.2.1)
def m_law_draw_v_source_here_2 (s : m_law_draw_S) : (List Int) := (setI s.1 (0 : Int) ((ixI (0 : Int) s.1 (0 : Int)) / s.2.1))
def m_law_draw_v_source_here_3 (s : m_law_draw_S) : (List Int) := (setI s.1 (2 : Int) ((ixI (0 : Int) s.1 (2 : Int)) + (1 : Int)))
def m_law_draw_v_source_here_4 (s : m_law_draw_S) : (List Int) := (setI (m_law_draw_v_source_here_3 s) (1 : Int) (((((ixI (0 : Int) (m_law_draw_v_source_here_3 s) (1 : Int)) ^ ((3 : Int)).toNat) + ((479001599 : Int) * (ixI (0 : Int) (m_law_draw_v_source_here_3 s) (2 : Int)))) + (5 : Int)) % (((10 : Int) ^ ((33 : Int)).toNat) + (61 : Int))))
def m_law_draw (s : m_law_draw_S) : (List Int) × Int := hide ((if (decide ((0 : Int) < (ixI (0 : Int) s.1 (0 : Int)))) = true then ((m_law_draw_v_source_here_2 s), (m_law_draw_v_digit_1 s)) else ((m_law_draw_v_source_here_4 s), (((ixI (0 : Int) (m_law_draw_v_source_here_4 s) (1 : Int)) / ((10 : Int) ^ ((8 : Int)).toNat)) % s.2.1))))
def m_law_draw_p (s : m_law_draw_S) : Prop := Conj [fun s => IxOk s.1 (0 : Int), fun s => if (decide ((0 : Int) < (ixI (0 : Int) s.1 (0 : Int)))) = true then Conj [fun s => IxOk s.1 (0 : Int), fun s => CPosM (ixI (0 : Int) s.1 (0 : Int)) s.2.1, fun s => IxOk s.1 (0 : Int), fun s => CDivW (ixI (0 : Int) s.1 (0 : Int)) s.2.1, fun s => IxOk s.1 (0 : Int)] s else Conj [fun s => IxOk s.1 (2 : Int), fun s => IxOk s.1 (2 : Int), fun s => IxOk (m_law_draw_v_source_here_3 s) (1 : Int), fun s => CPowX (ixI (0 : Int) (m_law_draw_v_source_here_3 s) (1 : Int)) (3 : Int), fun s => IxOk (m_law_draw_v_source_here_3 s) (2 : Int), fun s => CMulX (479001599 : Int) (ixI (0 : Int) (m_law_draw_v_source_here_3 s) (2 : Int)), fun s => CPowX (10 : Int) (33 : Int), fun s => CPosM ((((ixI (0 : Int) (m_law_draw_v_source_here_3 s) (1 : Int)) ^ ((3 : Int)).toNat) + ((479001599 : Int) * (ixI (0 : Int) (m_law_draw_v_source_here_3 s) (2 : Int)))) + (5 : Int)) (((10 : Int) ^ ((33 : Int)).toNat) + (61 : Int)), fun s => IxOk (m_law_draw_v_source_here_3 s) (1 : Int), fun s => IxOk (m_law_draw_v_source_here_4 s) (1 : Int), fun s => CPowX (10 : Int) (8 : Int), fun s => CDivW (ixI (0 : Int) (m_law_draw_v_source_here_4 s) (1 : Int)) ((10 : Int) ^ ((8 : Int)).toNat), fun s => CPosM ((ixI (0 : Int) (m_law_draw_v_source_here_4 s) (1 : Int)) / ((10 : Int) ^ ((8 : Int)).toNat)) s.2.1] s] s
abbrev m_law_draw_fm (K : PySem.W.Frag) : Fm K ((List Int) × Int) := ⟨[.mu (oList (tInt K)), .fz (tInt K)], .fz (tInt K), fun r => r.2, fun r => (r.1, ())⟩
abbrev m_law_size_S : Type := (List Int) × (List Int) × Unit
def m_law_size_c1 (s : m_law_size_S) : (List Int) × Int := m_law_draw (s.1, (6 : Int), ())
def m_law_size_c2 (s : m_law_size_S) : (List Int) × Int := m_law_draw ((m_law_size_c1 s).1, (40 : Int), ())
def m_law_size_c3 (s : m_law_size_S) : (List Int) × Int := m_law_draw ((m_law_size_c2 s).1, (200 : Int), ())
def m_law_size_v_some_4 (s : m_law_size_S) : (List Int) := ([((1 : Int) + (m_law_size_c1 s).2), ((1 : Int) + (m_law_size_c2 s).2), ((1 : Int) + (m_law_size_c3 s).2)] : List Int)
def m_law_size_c5 (s : m_law_size_S) : (List Int) × Int := m_law_draw ((m_law_size_c3 s).1, (1000 : Int), ())
def m_law_size_c6 (s : m_law_size_S) : (List Int) × Int := m_law_draw ((m_law_size_c5 s).1, (2 : Int), ())
def m_law_size_v_some_7 (s : m_law_size_S) : (List Int) := ((m_law_size_v_some_4 s) ++ ([(((10 : Int) ^ ((9 : Int)).toNat) + (m_law_size_c5 s).2), (((10 : Int) ^ ((30 : Int)).toNat) - (m_law_size_c6 s).2)] : List Int))
def m_law_size_c8 (s : m_law_size_S) : (List Int) × Int := m_law_draw ((m_law_size_c6 s).1, (5 : Int), ())
def m_law_size (s : m_law_size_S) : (List Int) × Int := hide (((if (((dfList dfInt)).eq s.2.1 ([] : List Int)) = true then (m_law_size_c6 s).1 else (m_law_size_c8 s).1), (if (((dfList dfInt)).eq s.2.1 ([] : List Int)) = true then (5 : Int) else (ixI (0 : Int) (m_law_size_v_some_7 s) (m_law_size_c8 s).2))))
def m_law_size_p (s : m_law_size_S) : Prop := Conj [fun s => m_law_draw_p (s.1, (6 : Int), ()), fun s => m_law_draw_p ((m_law_size_c1 s).1, (40 : Int), ()), fun s => m_law_draw_p ((m_law_size_c2 s).1, (200 : Int), ()), fun s => CPowX (10 : Int) (9 : Int), fun s => m_law_draw_p ((m_law_size_c3 s).1, (1000 : Int), ()), fun s => CPowX (10 : Int) (30 : Int), fun s => m_law_draw_p ((m_law_size_c5 s).1, (2 : Int), ()), fun s => ((m_law_size_v_some_4 s)).length + (([(((10 : Int) ^ ((9 : Int)).toNat) + (m_law_size_c5 s).2), (((10 : Int) ^ ((30 : Int)).toNat) - (m_law_size_c6 s).2)] : List Int)).length ≤ sizeLine, fun s => (((dfList dfInt)).eq s.2.1 ([] : List Int)) = false → m_law_draw_p ((m_law_size_c6 s).1, (5 : Int), ()), fun s => (((dfList dfInt)).eq s.2.1 ([] : List Int)) = false → IxOk (m_law_size_v_some_7 s) (m_law_size_c8 s).2] s
abbrev m_law_size_fm (K : PySem.W.Frag) : Fm K ((List Int) × Int) := ⟨[.mu (oList (tInt K)), .fz (tScr K)], .fz (tInt K), fun r => r.2, fun r => (r.1, ())⟩
abbrev m_law_marked_S : Type := (List Int) × Int × Int × Unit
def m_law_marked_c1 (s : m_law_marked_S) : (List Int) × Int := m_law_draw (s.1, (min s.2.1 (4 : Int)), ())
def m_law_marked_v_found_2 (s : m_law_marked_S) : (List (Int × Int)) := ([] : List (Int × Int))
def m_law_marked_c3 (s : m_law_marked_S) : (List Int) × Int := m_law_draw ((m_law_marked_c1 s).1, (s.2.2.1 + (1 : Int)), ())
abbrev m_law_marked_L4M : Type := ((List Int) × (List (Int × Int)) × Int)
def m_law_marked_L4x (s : m_law_marked_S) : List Int := (rangeL (m_law_marked_c3 s).2)
def m_law_marked_L4i (s : m_law_marked_S) : m_law_marked_L4M := ((m_law_marked_c3 s).1, (m_law_marked_v_found_2 s), (m_law_marked_c1 s).2)
abbrev m_law_marked_L4T : Type := (m_law_marked_S × m_law_marked_L4M) × Int
def m_law_marked_h5 (s : m_law_marked_L4T) : Bool := (decide (s.1.1.2.1 ≤ s.1.2.2.2))
def m_law_marked_c6 (s : m_law_marked_L4T) : (List Int) × Int := m_law_draw (s.1.2.1, (6 : Int), ())
def m_law_marked_c7 (s : m_law_marked_L4T) : (List Int) × Int := m_law_draw ((m_law_marked_c6 s).1, s.1.1.2.1, ())
def m_law_marked_c8 (s : m_law_marked_L4T) : (List Int) × Int := m_law_draw ((m_law_marked_c7 s).1, (5 : Int), ())
def m_law_marked_v_last_9 (s : m_law_marked_L4T) : Int := (min (s.1.1.2.1 - (1 : Int)) (s.1.2.2.2 + (ixI (0 : Int) ([(0 : Int), (0 : Int), (1 : Int), (m_law_marked_c6 s).2, (m_law_marked_c7 s).2] : List Int) (m_law_marked_c8 s).2)))
def m_law_marked_v_found_10 (s : m_law_marked_L4T) : (List (Int × Int)) := (s.1.2.2.1 ++ [(s.1.2.2.2, (m_law_marked_v_last_9 s))])
def m_law_marked_c11 (s : m_law_marked_L4T) : (List Int) × Int := m_law_draw ((m_law_marked_c8 s).1, (5 : Int), ())
def m_law_marked_c12 (s : m_law_marked_L4T) : (List Int) × Int := m_law_draw ((m_law_marked_c11 s).1, (4 : Int), ())
def m_law_marked_v_at_13 (s : m_law_marked_L4T) : Int := (((m_law_marked_v_last_9 s) + (2 : Int)) + (ixI (0 : Int) ([(0 : Int), (0 : Int), (1 : Int), (m_law_marked_c11 s).2] : List Int) (m_law_marked_c12 s).2))
def m_law_marked_L4s (s : m_law_marked_L4T) : m_law_marked_L4M := ((m_law_marked_c12 s).1, (m_law_marked_v_found_10 s), (m_law_marked_v_at_13 s))
def m_law_marked_L4c (s : m_law_marked_L4T) : Prop := Conj [fun s => (if (m_law_marked_h5 s) = true then (some (s.1.2.1, s.1.2.2.1)) else none) = none → Conj [fun s => m_law_draw_p (s.1.2.1, (6 : Int), ()), fun s => m_law_draw_p ((m_law_marked_c6 s).1, s.1.1.2.1, ()), fun s => m_law_draw_p ((m_law_marked_c7 s).1, (5 : Int), ()), fun s => IxOk ([(0 : Int), (0 : Int), (1 : Int), (m_law_marked_c6 s).2, (m_law_marked_c7 s).2] : List Int) (m_law_marked_c8 s).2, fun s => (s.1.2.2.1).length < sizeLine, fun s => m_law_draw_p ((m_law_marked_c8 s).1, (5 : Int), ()), fun s => m_law_draw_p ((m_law_marked_c11 s).1, (4 : Int), ()), fun s => IxOk ([(0 : Int), (0 : Int), (1 : Int), (m_law_marked_c11 s).2] : List Int) (m_law_marked_c12 s).2] s] s
def m_law_marked_L4 (s : m_law_marked_S) : m_law_marked_L4M := LoopF (fun m x => m_law_marked_L4s ((s, m), x)) (m_law_marked_L4x s) (m_law_marked_L4i s)
def m_law_marked_L4r (s : m_law_marked_L4T) : Option ((List Int) × (List (Int × Int))) := (orElseO (if (m_law_marked_h5 s) = true then (some (s.1.2.1, s.1.2.2.1)) else none) none)
def m_law_marked_L4R (s : m_law_marked_S) : Option ((List Int) × (List (Int × Int))) := LoopR (fun m x => m_law_marked_L4r ((s, m), x)) (fun m x => m_law_marked_L4s ((s, m), x)) (m_law_marked_L4x s) (m_law_marked_L4i s)
def m_law_marked (s : m_law_marked_S) : (List Int) × (List (Int × Int)) := hide ((orElse (m_law_marked_L4R s) ((m_law_marked_L4 s).1, (m_law_marked_L4 s).2.1)))
def m_law_marked_p (s : m_law_marked_S) : Prop := Conj [fun s => m_law_draw_p (s.1, (min s.2.1 (4 : Int)), ()), fun s => m_law_draw_p ((m_law_marked_c1 s).1, (s.2.2.1 + (1 : Int)), ()), fun s => RgOk (m_law_marked_c3 s).2, fun s => loopCr (fun m x => m_law_marked_L4c ((s, m), x)) (fun m x => m_law_marked_L4r ((s, m), x)) (fun m x => m_law_marked_L4s ((s, m), x)) (m_law_marked_L4x s) (m_law_marked_L4i s), fun s => (m_law_marked_L4R s) = none → Conj [] s] s
abbrev m_law_marked_fm (K : PySem.W.Frag) : Fm K ((List Int) × (List (Int × Int))) := ⟨[.mu (oList (tInt K)), .fz (tInt K), .fz (tInt K)], .ow (oList (tTp [(tInt K), (tInt K)])), fun r => r.2, fun r => (r.1, ())⟩
abbrev m_law_start_S : Type := (List Int) × (List Int) × Int × Unit
def m_law_start_c1 (s : m_law_start_S) : (List Int) × Int := m_law_size (s.1, s.2.1, ())
def m_law_start_c2 (s : m_law_start_S) : (List Int) × (List (Int × Int)) := m_law_marked ((m_law_start_c1 s).1, (m_law_start_c1 s).2, (if (((dfList dfInt)).eq s.2.1 ([] : List Int)) = true then (2 : Int) else s.2.2.1), ())
def m_law_start_c3 (s : m_law_start_S) : (List Int) × Int := m_law_draw ((m_law_start_c2 s).1, (2 : Int), ())
def m_law_start_c4 (s : m_law_start_S) : (List Int) × Int := m_law_draw ((m_law_start_c3 s).1, (m_law_start_c1 s).2, ())
def m_law_start_v_source_here_5 (s : m_law_start_S) : (List Int) := (if ((dfInt).eq (m_law_start_c3 s).2 (1 : Int)) = true then (m_law_start_c4 s).1 else (m_law_start_c3 s).1)
def m_law_start_v_anchor_6 (s : m_law_start_S) : (Option Int) := (if ((dfInt).eq (m_law_start_c3 s).2 (1 : Int)) = true then (some (m_law_start_c4 s).2) else none)
def m_law_start (s : m_law_start_S) : (List Int) × (Int × (List (Int × Int)) × (Option Int)) := hide (((m_law_start_v_source_here_5 s), ((m_law_start_c1 s).2, (m_law_start_c2 s).2, (m_law_start_v_anchor_6 s))))
def m_law_start_p (s : m_law_start_S) : Prop := Conj [fun s => m_law_size_p (s.1, s.2.1, ()), fun s => m_law_marked_p ((m_law_start_c1 s).1, (m_law_start_c1 s).2, (if (((dfList dfInt)).eq s.2.1 ([] : List Int)) = true then (2 : Int) else s.2.2.1), ()), fun s => m_law_draw_p ((m_law_start_c2 s).1, (2 : Int), ()), fun s => ((dfInt).eq (m_law_start_c3 s).2 (1 : Int)) = true → m_law_draw_p ((m_law_start_c3 s).1, (m_law_start_c1 s).2, ())] s
abbrev m_law_start_fm (K : PySem.W.Frag) : Fm K ((List Int) × (Int × (List (Int × Int)) × (Option Int))) := ⟨[.mu (oList (tInt K)), .fz (tScr K), .fz (tInt K)], .fz (tTp [(tInt K), (tList (tTp [(tInt K), (tInt K)])), (tOpt (tInt K))]), fun r => r.2, fun r => (r.1, ())⟩
abbrev m_law_item_S : Type := (List Int) × Int × Int × Unit
def m_law_item_c1 (s : m_law_item_S) : (List Int) × Int := m_law_draw (s.1, s.2.1, ())
def m_law_item_c2 (s : m_law_item_S) : (List Int) × Int := m_law_draw ((m_law_item_c1 s).1, (min s.2.1 (12 : Int)), ())
def m_law_item_c3 (s : m_law_item_S) : (List Int) × Int := m_law_draw ((m_law_item_c2 s).1, (min s.2.1 (6 : Int)), ())
def m_law_item_v_some_4 (s : m_law_item_S) : (List Int) := ([(m_law_item_c1 s).2, (m_law_item_c2 s).2, ((s.2.1 - (1 : Int)) - (m_law_item_c3 s).2)] : List Int)
def m_law_item_c5 (s : m_law_item_S) : (List Int) × Int := m_law_draw ((m_law_item_c3 s).1, (7 : Int), ())
def m_law_item_v_some_6 (s : m_law_item_S) : (List Int) := ((m_law_item_v_some_4 s) ++ [(min (s.2.1 - (1 : Int)) (max (0 : Int) ((s.2.2.1 + (m_law_item_c5 s).2) - (3 : Int))))])
def m_law_item_c7 (s : m_law_item_S) : (List Int) × Int := m_law_draw ((m_law_item_c5 s).1, (4 : Int), ())
def m_law_item (s : m_law_item_S) : (List Int) × Int := hide (((m_law_item_c7 s).1, (ixI (0 : Int) (m_law_item_v_some_6 s) (m_law_item_c7 s).2)))
def m_law_item_p (s : m_law_item_S) : Prop := Conj [fun s => m_law_draw_p (s.1, s.2.1, ()), fun s => m_law_draw_p ((m_law_item_c1 s).1, (min s.2.1 (12 : Int)), ()), fun s => m_law_draw_p ((m_law_item_c2 s).1, (min s.2.1 (6 : Int)), ()), fun s => m_law_draw_p ((m_law_item_c3 s).1, (7 : Int), ()), fun s => ((m_law_item_v_some_4 s)).length < sizeLine, fun s => m_law_draw_p ((m_law_item_c5 s).1, (4 : Int), ()), fun s => IxOk (m_law_item_v_some_6 s) (m_law_item_c7 s).2] s
abbrev m_law_item_fm (K : PySem.W.Frag) : Fm K ((List Int) × Int) := ⟨[.mu (oList (tInt K)), .fz (tInt K), .fz (tInt K)], .fz (tInt K), fun r => r.2, fun r => (r.1, ())⟩
abbrev m_law_pressed_S : Type := (List Int) × Int × Int × (Option Int) × Unit
def m_law_pressed_v_found_1 (s : m_law_pressed_S) : (List (Str × Int)) := ([] : List (Str × Int))
def m_law_pressed_v_near_2 (s : m_law_pressed_S) : Int := (if (s.2.2.2.1).isNone = true then (0 : Int) else ((s.2.2.2.1).getD (0 : Int)))
def m_law_pressed_c3 (s : m_law_pressed_S) : (List Int) × Int := m_law_draw (s.1, (s.2.2.1 + (1 : Int)), ())
def m_law_pressed_c4 (s : m_law_pressed_S) : (List Int) × Int := m_law_draw ((m_law_pressed_c3 s).1, (2 : Int), ())
abbrev m_law_pressed_L5M : Type := ((List Int) × (List (Str × Int)) × Int)
def m_law_pressed_L5x (s : m_law_pressed_S) : List Int := (rangeL (ixI (0 : Int) ([(m_law_pressed_c3 s).2, s.2.2.1] : List Int) (m_law_pressed_c4 s).2))
def m_law_pressed_L5i (s : m_law_pressed_S) : m_law_pressed_L5M := ((m_law_pressed_c4 s).1, (m_law_pressed_v_found_1 s), (m_law_pressed_v_near_2 s))
abbrev m_law_pressed_L5T : Type := (m_law_pressed_S × m_law_pressed_L5M) × Int
def m_law_pressed_c6 (s : m_law_pressed_L5T) : (List Int) × Int := m_law_item (s.1.2.1, s.1.1.2.1, s.1.2.2.2, ())
def m_law_pressed_c7 (s : m_law_pressed_L5T) : (List Int) × Int := m_law_draw ((m_law_pressed_c6 s).1, (2 : Int), ())
def m_law_pressed_v_is_range_8 (s : m_law_pressed_L5T) : Bool := (((dfInt).eq (m_law_pressed_c7 s).2 (1 : Int)) && ((!((dfList (dfT2 dfStr dfInt))).eq s.1.2.2.1 ([] : List (Str × Int))) || (s.1.1.2.2.2.1).isSome))
def m_law_pressed_v_found_9 (s : m_law_pressed_L5T) : (List (Str × Int)) := (s.1.2.2.1 ++ [((if (m_law_pressed_v_is_range_8 s) = true then ("range" : Str) else ("click" : Str)), (m_law_pressed_c6 s).2)])
def m_law_pressed_L5s (s : m_law_pressed_L5T) : m_law_pressed_L5M := ((m_law_pressed_c7 s).1, (m_law_pressed_v_found_9 s), (m_law_pressed_c6 s).2)
def m_law_pressed_L5c (s : m_law_pressed_L5T) : Prop := Conj [fun s => m_law_item_p (s.1.2.1, s.1.1.2.1, s.1.2.2.2, ()), fun s => m_law_draw_p ((m_law_pressed_c6 s).1, (2 : Int), ()), fun s => (s.1.2.2.1).length < sizeLine] s
def m_law_pressed_L5 (s : m_law_pressed_S) : m_law_pressed_L5M := LoopF (fun m x => m_law_pressed_L5s ((s, m), x)) (m_law_pressed_L5x s) (m_law_pressed_L5i s)
def m_law_pressed (s : m_law_pressed_S) : (List Int) × (List (Str × Int)) := hide (((m_law_pressed_L5 s).1, (m_law_pressed_L5 s).2.1))
def m_law_pressed_p (s : m_law_pressed_S) : Prop := Conj [fun s => (s.2.2.2.1).isNone = false → (s.2.2.2.1).isSome = true, fun s => m_law_draw_p (s.1, (s.2.2.1 + (1 : Int)), ()), fun s => m_law_draw_p ((m_law_pressed_c3 s).1, (2 : Int), ()), fun s => IxOk ([(m_law_pressed_c3 s).2, s.2.2.1] : List Int) (m_law_pressed_c4 s).2, fun s => RgOk (ixI (0 : Int) ([(m_law_pressed_c3 s).2, s.2.2.1] : List Int) (m_law_pressed_c4 s).2), fun s => loopC (fun m x => m_law_pressed_L5c ((s, m), x)) (fun m x => m_law_pressed_L5s ((s, m), x)) (m_law_pressed_L5x s) (m_law_pressed_L5i s)] s
abbrev m_law_pressed_fm (K : PySem.W.Frag) : Fm K ((List Int) × (List (Str × Int))) := ⟨[.mu (oList (tInt K)), .fz (tInt K), .fz (tInt K), .fz (tOpt (tInt K))], .ow (oList (tTp [(tStr K), (tInt K)])), fun r => r.2, fun r => (r.1, ())⟩
abbrev mis_integer_S : Type := Int × Int × Int × Unit
def mis_integer (s : mis_integer_S) : Bool := hide ((true && ((!false) && (pLe s.2.1 s.1 && pLe s.1 s.2.2.1))))
def mis_integer_p (s : mis_integer_S) : Prop := Conj [] s
abbrev mis_integer_fm (K : PySem.W.Frag) : Fm K (Bool) := ⟨[.fz (tInt K), .fz (tInt K), .fz (tInt K)], .fz (tBool K), fun r => r, fun _ => ()⟩
abbrev mcheck_items_S : Type := Int × Unit
def mcheck_items_c1 (s : mcheck_items_S) : Bool := mis_integer (s.1, (1 : Int), (1000000000000000000000000000000 : Int), ())
def mcheck_items (s : mcheck_items_S) : Unit := hide (())
def mcheck_items_p (s : mcheck_items_S) : Prop := Conj [fun s => mis_integer_p (s.1, (1 : Int), (1000000000000000000000000000000 : Int), ()), fun s => (!(mcheck_items_c1 s)) = true → False] s
abbrev mcheck_items_fm (K : PySem.W.Frag) : Fm K (Unit) := ⟨[.fz (tInt K)], .fz (tNone K), fun r => r, fun _ => ()⟩
abbrev mis_run_S : Type := Int × (Int × Int) × Unit
def mis_run_c1 (s : mis_run_S) : Bool := mis_integer (s.2.1.1, (0 : Int), (s.1 - (1 : Int)), ())
def mis_run_c2 (s : mis_run_S) : Bool := mis_integer (s.2.1.2, s.2.1.1, (s.1 - (1 : Int)), ())
def mis_run (s : mis_run_S) : Bool := hide ((if ((!true) || ((!(dfInt).eq (2 : Int) (2 : Int)) || (!(mis_run_c1 s)))) = true then false else (mis_run_c2 s)))
def mis_run_p (s : mis_run_S) : Prop := Conj [fun s => (!true) = false → (!(dfInt).eq (2 : Int) (2 : Int)) = false → mis_integer_p (s.2.1.1, (0 : Int), (s.1 - (1 : Int)), ()), fun s => if ((!true) || ((!(dfInt).eq (2 : Int) (2 : Int)) || (!(mis_run_c1 s)))) = true then Conj [] s else Conj [fun s => mis_integer_p (s.2.1.2, s.2.1.1, (s.1 - (1 : Int)), ())] s] s
abbrev mis_run_fm (K : PySem.W.Frag) : Fm K (Bool) := ⟨[.fz (tInt K), .fz (tTp [(tInt K), (tInt K)])], .fz (tBool K), fun r => r, fun _ => ()⟩
abbrev mare_runs_S : Type := Int × (List (Int × Int)) × Unit
def mare_runs_c1 (s : (mare_runs_S × (Int × Int))) : Bool := mis_run (s.1.1, s.2, ())
def mare_runs (s : mare_runs_S) : Bool := hide ((if ((!true) || (!(((lcV s.2.1 (fun x => true) (fun x => (mare_runs_c1 (s, x))))).all id))) = true then false else (((lcV (List.zip s.2.1 (cutL s.2.1 (some (1 : Int)) none)) (fun x => true) (fun x => (decide (((s, x).2.1.2 + (1 : Int)) < (s, x).2.2.1))))).all id)))
def mare_runs_p (s : mare_runs_S) : Prop := Conj [fun s => (!true) = false → ∀ x ∈ s.2.1, Conj [] (s, x) ∧ (true = true → Conj [fun s => mis_run_p (s.1.1, s.2, ())] (s, x)), fun s => if ((!true) || (!(((lcV s.2.1 (fun x => true) (fun x => (mare_runs_c1 (s, x))))).all id))) = true then Conj [] s else Conj [fun s => ∀ x ∈ (List.zip s.2.1 (cutL s.2.1 (some (1 : Int)) none)), Conj [] (s, x) ∧ (true = true → Conj [] (s, x))] s] s
abbrev mare_runs_fm (K : PySem.W.Frag) : Fm K (Bool) := ⟨[.fz (tInt K), .fz (tList (tTp [(tInt K), (tInt K)]))], .fz (tBool K), fun r => r, fun _ => ()⟩
abbrev mis_selection_S : Type := Int × (List (Int × Int)) × Unit
def mis_selection_c1 (s : mis_selection_S) : Unit := mcheck_items (s.1, ())
def mis_selection_c2 (s : mis_selection_S) : Bool := mare_runs (s.1, s.2.1, ())
def mis_selection (s : mis_selection_S) : Bool := hide ((mis_selection_c2 s))
def mis_selection_p (s : mis_selection_S) : Prop := Conj [fun s => mcheck_items_p (s.1, ()), fun s => mare_runs_p (s.1, s.2.1, ())] s
abbrev mis_selection_fm (K : PySem.W.Frag) : Fm K (Bool) := ⟨[.fz (tInt K), .fz (tList (tTp [(tInt K), (tInt K)]))], .fz (tBool K), fun r => r, fun _ => ()⟩
abbrev mis_state_S : Type := (Int × (List (Int × Int)) × (Option Int)) × Unit
def mis_state_c1 (s : mis_state_S) : Bool := mis_integer (s.1.1, (1 : Int), (1000000000000000000000000000000 : Int), ())
def mis_state_t2 (s : mis_state_S) : (Int × (List (Int × Int)) × (Option Int)) := s.1
def mis_state_c3 (s : mis_state_S) : Bool := mis_selection ((mis_state_t2 s).1, (mis_state_t2 s).2.1, ())
def mis_state_c4 (s : mis_state_S) : Bool := mis_integer ((((mis_state_t2 s).2.2).getD (0 : Int)), (0 : Int), ((mis_state_t2 s).1 - (1 : Int)), ())
def mis_state (s : mis_state_S) : Bool := hide ((if ((!true) || ((!(dfInt).eq (3 : Int) (3 : Int)) || (!(mis_state_c1 s)))) = true then false else ((mis_state_c3 s) && (((mis_state_t2 s).2.2).isNone || (mis_state_c4 s)))))
def mis_state_p (s : mis_state_S) : Prop := Conj [fun s => (!true) = false → (!(dfInt).eq (3 : Int) (3 : Int)) = false → mis_integer_p (s.1.1, (1 : Int), (1000000000000000000000000000000 : Int), ()), fun s => if ((!true) || ((!(dfInt).eq (3 : Int) (3 : Int)) || (!(mis_state_c1 s)))) = true then Conj [] s else Conj [fun s => mis_selection_p ((mis_state_t2 s).1, (mis_state_t2 s).2.1, ()), fun s => (mis_state_c3 s) = true → ((mis_state_t2 s).2.2).isNone = false → ((mis_state_t2 s).2.2).isSome = true, fun s => (mis_state_c3 s) = true → ((mis_state_t2 s).2.2).isNone = false → mis_integer_p ((((mis_state_t2 s).2.2).getD (0 : Int)), (0 : Int), ((mis_state_t2 s).1 - (1 : Int)), ())] s] s
abbrev mis_state_fm (K : PySem.W.Frag) : Fm K (Bool) := ⟨[.fz (tTp [(tInt K), (tList (tTp [(tInt K), (tInt K)])), (tOpt (tInt K))])], .fz (tBool K), fun r => r, fun _ => ()⟩
abbrev mcheck_state_S : Type := (Int × (List (Int × Int)) × (Option Int)) × Unit
def mcheck_state_c1 (s : mcheck_state_S) : Bool := mis_state (s.1, ())
def mcheck_state (s : mcheck_state_S) : Unit := hide (())
def mcheck_state_p (s : mcheck_state_S) : Prop := Conj [fun s => mis_state_p (s.1, ()), fun s => (!(mcheck_state_c1 s)) = true → False] s
abbrev mcheck_state_fm (K : PySem.W.Frag) : Fm K (Unit) := ⟨[.fz (tTp [(tInt K), (tList (tTp [(tInt K), (tInt K)])), (tOpt (tInt K))])], .fz (tNone K), fun r => r, fun _ => ()⟩
abbrev mis_click_S : Type := Int × (Str × Int) × Unit
def mis_click_c1 (s : mis_click_S) : Bool := mis_integer (s.2.1.2, (0 : Int), (s.1 - (1 : Int)), ())
def mis_click (s : mis_click_S) : Bool := hide ((if ((!true) || ((!(dfInt).eq (2 : Int) (2 : Int)) || (!decide (s.2.1.1 = ((("click" : Str), ("range" : Str))).1 ∨ s.2.1.1 = ((("click" : Str), ("range" : Str))).2)))) = true then false else (mis_click_c1 s)))
def mis_click_p (s : mis_click_S) : Prop := Conj [fun s => if ((!true) || ((!(dfInt).eq (2 : Int) (2 : Int)) || (!decide (s.2.1.1 = ((("click" : Str), ("range" : Str))).1 ∨ s.2.1.1 = ((("click" : Str), ("range" : Str))).2)))) = true then Conj [] s else Conj [fun s => mis_integer_p (s.2.1.2, (0 : Int), (s.1 - (1 : Int)), ())] s] s
abbrev mis_click_fm (K : PySem.W.Frag) : Fm K (Bool) := ⟨[.fz (tInt K), .fz (tTp [(tStr K), (tInt K)])], .fz (tBool K), fun r => r, fun _ => ()⟩
abbrev mcheck_clicks_S : Type := Int × (List (Str × Int)) × Unit
abbrev mcheck_clicks_L1M : Type := Unit
def mcheck_clicks_L1x (s : mcheck_clicks_S) : List (Int × (Str × Int)) := (enumL s.2.1)
def mcheck_clicks_L1i (s : mcheck_clicks_S) : mcheck_clicks_L1M := ()
abbrev mcheck_clicks_L1T : Type := (mcheck_clicks_S × mcheck_clicks_L1M) × (Int × (Str × Int))
def mcheck_clicks_c2 (s : mcheck_clicks_L1T) : Bool := mis_click (s.1.1.1, s.2.2, ())
def mcheck_clicks_L1s (s : mcheck_clicks_L1T) : mcheck_clicks_L1M := ()
def mcheck_clicks_L1c (s : mcheck_clicks_L1T) : Prop := Conj [fun s => mis_click_p (s.1.1.1, s.2.2, ()), fun s => (!(mcheck_clicks_c2 s)) = true → False] s
def mcheck_clicks_L1 (s : mcheck_clicks_S) : mcheck_clicks_L1M := LoopF (fun m x => mcheck_clicks_L1s ((s, m), x)) (mcheck_clicks_L1x s) (mcheck_clicks_L1i s)
def mcheck_clicks (s : mcheck_clicks_S) : Unit := hide (())
def mcheck_clicks_p (s : mcheck_clicks_S) : Prop := Conj [fun s => (!true) = true → False, fun s => loopC (fun m x => mcheck_clicks_L1c ((s, m), x)) (fun m x => mcheck_clicks_L1s ((s, m), x)) (mcheck_clicks_L1x s) (mcheck_clicks_L1i s)] s
abbrev mcheck_clicks_fm (K : PySem.W.Frag) : Fm K (Unit) := ⟨[.fz (tInt K), .fz (tList (tTp [(tStr K), (tInt K)]))], .fz (tNone K), fun r => r, fun _ => ()⟩
abbrev mcheck_can_begin_S : Type := (List (Str × Int)) × (Option Int) × Unit
def mcheck_can_begin (s : mcheck_can_begin_S) : Unit := hide (())
def mcheck_can_begin_p (s : mcheck_can_begin_S) : Prop := Conj [fun s => (!((dfList (dfT2 dfStr dfInt))).eq s.1 ([] : List (Str × Int))) = true → IxOk s.1 (0 : Int), fun s => ((!((dfList (dfT2 dfStr dfInt))).eq s.1 ([] : List (Str × Int))) && (((dfStr).eq (ixI (Str.empty, (0 : Int)) s.1 (0 : Int)).1 ("range" : Str)) && (s.2.1).isNone)) = true → False] s
abbrev mcheck_can_begin_fm (K : PySem.W.Frag) : Fm K (Unit) := ⟨[.fz (tList (tTp [(tStr K), (tInt K)])), .fz (tOpt (tInt K))], .fz (tNone K), fun r => r, fun _ => ()⟩
abbrev mborders_in_S : Type := (List (Int × Int)) × Unit
def mborders_in_v_borders_1 (s : mborders_in_S) : (List Int) := ([] : List Int)
abbrev mborders_in_L2M : Type := (List Int)
def mborders_in_L2x (s : mborders_in_S) : List (Int × Int) := s.1
def mborders_in_L2i (s : mborders_in_S) : mborders_in_L2M := ((mborders_in_v_borders_1 s))
abbrev mborders_in_L2T : Type := (mborders_in_S × mborders_in_L2M) × (Int × Int)
def mborders_in_v_borders_3 (s : mborders_in_L2T) : (List Int) := (s.1.2 ++ ([s.2.1, (s.2.2 + (1 : Int))] : List Int))
def mborders_in_L2s (s : mborders_in_L2T) : mborders_in_L2M := ((mborders_in_v_borders_3 s))
def mborders_in_L2c (s : mborders_in_L2T) : Prop := Conj [fun s => (s.1.2).length + (([s.2.1, (s.2.2 + (1 : Int))] : List Int)).length ≤ sizeLine] s
def mborders_in_L2 (s : mborders_in_S) : mborders_in_L2M := LoopF (fun m x => mborders_in_L2s ((s, m), x)) (mborders_in_L2x s) (mborders_in_L2i s)
def mborders_in (s : mborders_in_S) : (List Int) := hide ((mborders_in_L2 s))
def mborders_in_p (s : mborders_in_S) : Prop := Conj [fun s => loopC (fun m x => mborders_in_L2c ((s, m), x)) (fun m x => mborders_in_L2s ((s, m), x)) (mborders_in_L2x s) (mborders_in_L2i s)] s
abbrev mborders_in_fm (K : PySem.W.Frag) : Fm K ((List Int)) := ⟨[.fz (tList (tTp [(tInt K), (tInt K)]))], .ow (oList (tInt K)), fun r => r, fun _ => ()⟩
abbrev mfrom_borders_S : Type := (List Int) × Unit
def mfrom_borders (s : mfrom_borders_S) : (List (Int × Int)) := hide ((lcV (List.zip (stepL s.1 none none (some (2 : Int))) (stepL s.1 (some (1 : Int)) none (some (2 : Int)))) (fun x => true) (fun x => ((s, x).2.1, ((s, x).2.2 - (1 : Int))))))
def mfrom_borders_p (s : mfrom_borders_S) : Prop := Conj [fun s => ∀ x ∈ (List.zip (stepL s.1 none none (some (2 : Int))) (stepL s.1 (some (1 : Int)) none (some (2 : Int)))), Conj [] (s, x) ∧ (true = true → Conj [] (s, x))] s
abbrev mfrom_borders_fm (K : PySem.W.Frag) : Fm K ((List (Int × Int))) := ⟨[.fz (tList (tInt K))], .ow (oList (tTp [(tInt K), (tInt K)])), fun r => r, fun _ => ()⟩
abbrev mwith_click_S : Type := (List (Int × Int)) × Int × Unit
def mwith_click_c1 (s : mwith_click_S) : (List Int) := mborders_in (s.1, ())
def mwith_click_v_ends_2 (s : mwith_click_S) : (Int × Int) := (s.2.1, (s.2.1 + (1 : Int)))
def mwith_click_v_kept_3 (s : mwith_click_S) : (List Int) := (lcV (mwith_click_c1 s) (fun x => (!decide ((s, x).2 ∈ [((mwith_click_v_ends_2 (s, x).1)).1, ((mwith_click_v_ends_2 (s, x).1)).2]))) (fun x => (s, x).2))
def mwith_click_c4 (s : mwith_click_S) : (List (Int × Int)) := mfrom_borders ((sortI ((mwith_click_v_kept_3 s) ++ (lcV [((mwith_click_v_ends_2 s)).1, ((mwith_click_v_ends_2 s)).2] (fun x => (!decide ((s, x).2 ∈ (mwith_click_c1 (s, x).1)))) (fun x => (s, x).2)))), ())
def mwith_click (s : mwith_click_S) : (List (Int × Int)) := hide ((mwith_click_c4 s))
def mwith_click_p (s : mwith_click_S) : Prop := Conj [fun s => mborders_in_p (s.1, ()), fun s => ∀ x ∈ (mwith_click_c1 s), Conj [] (s, x) ∧ ((!decide ((s, x).2 ∈ [((mwith_click_v_ends_2 (s, x).1)).1, ((mwith_click_v_ends_2 (s, x).1)).2])) = true → Conj [] (s, x)), fun s => ∀ x ∈ [((mwith_click_v_ends_2 s)).1, ((mwith_click_v_ends_2 s)).2], Conj [] (s, x) ∧ ((!decide ((s, x).2 ∈ (mwith_click_c1 (s, x).1))) = true → Conj [] (s, x)), fun s => ((mwith_click_v_kept_3 s)).length + ((lcV [((mwith_click_v_ends_2 s)).1, ((mwith_click_v_ends_2 s)).2] (fun x => (!decide ((s, x).2 ∈ (mwith_click_c1 (s, x).1)))) (fun x => (s, x).2))).length ≤ sizeLine, fun s => mfrom_borders_p ((sortI ((mwith_click_v_kept_3 s) ++ (lcV [((mwith_click_v_ends_2 s)).1, ((mwith_click_v_ends_2 s)).2] (fun x => (!decide ((s, x).2 ∈ (mwith_click_c1 (s, x).1)))) (fun x => (s, x).2)))), ())] s
abbrev mwith_click_fm (K : PySem.W.Frag) : Fm K ((List (Int × Int))) := ⟨[.fz (tList (tTp [(tInt K), (tInt K)])), .fz (tInt K)], .ow (oList (tTp [(tInt K), (tInt K)])), fun r => r, fun _ => ()⟩
abbrev mmarked_in_S : Type := (List (Int × Int)) × Int × Unit
def mmarked_in (s : mmarked_in_S) : Bool := hide ((((lcV s.1 (fun x => true) (fun x => (pLe (s, x).2.1 (s, x).1.2.1 && pLe (s, x).1.2.1 (s, x).2.2)))).any id))
def mmarked_in_p (s : mmarked_in_S) : Prop := Conj [fun s => ∀ x ∈ s.1, Conj [] (s, x) ∧ (true = true → Conj [] (s, x))] s
abbrev mmarked_in_fm (K : PySem.W.Frag) : Fm K (Bool) := ⟨[.fz (tList (tTp [(tInt K), (tInt K)])), .fz (tInt K)], .fz (tBool K), fun r => r, fun _ => ()⟩
abbrev mwith_range_S : Type := (List (Int × Int)) × Int × Int × Bool × Unit
def mwith_range_c1 (s : mwith_range_S) : (List Int) := mborders_in (s.1, ())
def mwith_range_v_borders_2 (s : mwith_range_S) : (List Int) := (lcV (mwith_range_c1 s) (fun x => (!(pLe (s, x).1.2.1 (s, x).2 && pLe (s, x).2 ((s, x).1.2.2.1 + (1 : Int))))) (fun x => (s, x).2))
def mwith_range_c3 (s : mwith_range_S) : Bool := mmarked_in (s.1, (s.2.1 - (1 : Int)), ())
def mwith_range_v_borders_4 (s : mwith_range_S) : (List Int) := ((mwith_range_v_borders_2 s) ++ [s.2.1])
def mwith_range_h5 (s : mwith_range_S) : Bool := (!(dfBool).eq (mwith_range_c3 s) s.2.2.2.1)
def mwith_range_v_borders_6 (s : mwith_range_S) : (List Int) := (if (mwith_range_h5 s) = true then (mwith_range_v_borders_4 s) else (mwith_range_v_borders_2 s))
def mwith_range_c7 (s : mwith_range_S) : Bool := mmarked_in (s.1, (s.2.2.1 + (1 : Int)), ())
def mwith_range_v_borders_8 (s : mwith_range_S) : (List Int) := ((mwith_range_v_borders_6 s) ++ [(s.2.2.1 + (1 : Int))])
def mwith_range_h9 (s : mwith_range_S) : Bool := (!(dfBool).eq (mwith_range_c7 s) s.2.2.2.1)
def mwith_range_v_borders_10 (s : mwith_range_S) : (List Int) := (if (mwith_range_h9 s) = true then (mwith_range_v_borders_8 s) else (mwith_range_v_borders_6 s))
def mwith_range_c11 (s : mwith_range_S) : (List (Int × Int)) := mfrom_borders ((sortI (mwith_range_v_borders_10 s)), ())
def mwith_range (s : mwith_range_S) : (List (Int × Int)) := hide ((mwith_range_c11 s))
def mwith_range_p (s : mwith_range_S) : Prop := Conj [fun s => mborders_in_p (s.1, ()), fun s => ∀ x ∈ (mwith_range_c1 s), Conj [] (s, x) ∧ ((!(pLe (s, x).1.2.1 (s, x).2 && pLe (s, x).2 ((s, x).1.2.2.1 + (1 : Int)))) = true → Conj [] (s, x)), fun s => mmarked_in_p (s.1, (s.2.1 - (1 : Int)), ()), fun s => (mwith_range_h5 s) = true → ((mwith_range_v_borders_2 s)).length < sizeLine, fun s => mmarked_in_p (s.1, (s.2.2.1 + (1 : Int)), ()), fun s => (mwith_range_h9 s) = true → ((mwith_range_v_borders_6 s)).length < sizeLine, fun s => mfrom_borders_p ((sortI (mwith_range_v_borders_10 s)), ())] s
abbrev mwith_range_fm (K : PySem.W.Frag) : Fm K ((List (Int × Int))) := ⟨[.fz (tList (tTp [(tInt K), (tInt K)])), .fz (tInt K), .fz (tInt K), .fz (tBool K)], .ow (oList (tTp [(tInt K), (tInt K)])), fun r => r, fun _ => ()⟩
abbrev mnext_state_S : Type := (Int × (List (Int × Int)) × (Option Int)) × (Str × Int) × Unit
def mnext_state_t1 (s : mnext_state_S) : (Int × (List (Int × Int)) × (Option Int)) := s.1
def mnext_state_t2 (s : mnext_state_S) : (Str × Int) := s.2.1
def mnext_state_c3 (s : mnext_state_S) : (List (Int × Int)) := mwith_click ((mnext_state_t1 s).2.1, (mnext_state_t2 s).2, ())
def mnext_state_c4 (s : mnext_state_S) : Bool := mmarked_in ((mnext_state_t1 s).2.1, (((mnext_state_t1 s).2.2).getD (0 : Int)), ())
def mnext_state_c5 (s : mnext_state_S) : (List (Int × Int)) := mwith_range ((mnext_state_t1 s).2.1, (min (((mnext_state_t1 s).2.2).getD (0 : Int)) (mnext_state_t2 s).2), (max (((mnext_state_t1 s).2.2).getD (0 : Int)) (mnext_state_t2 s).2), (mnext_state_c4 s), ())
def mnext_state (s : mnext_state_S) : (Int × (List (Int × Int)) × (Option Int)) := hide ((if ((dfStr).eq (mnext_state_t2 s).1 ("click" : Str)) = true then ((mnext_state_t1 s).1, (mnext_state_c3 s), (some (mnext_state_t2 s).2)) else ((mnext_state_t1 s).1, (mnext_state_c5 s), (mnext_state_t1 s).2.2)))
def mnext_state_p (s : mnext_state_S) : Prop := Conj [fun s => if ((dfStr).eq (mnext_state_t2 s).1 ("click" : Str)) = true then Conj [fun s => mwith_click_p ((mnext_state_t1 s).2.1, (mnext_state_t2 s).2, ())] s else Conj [fun s => ((mnext_state_t1 s).2.2).isSome = true, fun s => mmarked_in_p ((mnext_state_t1 s).2.1, (((mnext_state_t1 s).2.2).getD (0 : Int)), ()), fun s => ((mnext_state_t1 s).2.2).isSome = true, fun s => ((mnext_state_t1 s).2.2).isSome = true, fun s => mwith_range_p ((mnext_state_t1 s).2.1, (min (((mnext_state_t1 s).2.2).getD (0 : Int)) (mnext_state_t2 s).2), (max (((mnext_state_t1 s).2.2).getD (0 : Int)) (mnext_state_t2 s).2), (mnext_state_c4 s), ())] s] s
abbrev mnext_state_fm (K : PySem.W.Frag) : Fm K ((Int × (List (Int × Int)) × (Option Int))) := ⟨[.fz (tTp [(tInt K), (tList (tTp [(tInt K), (tInt K)])), (tOpt (tInt K))]), .fz (tTp [(tStr K), (tInt K)])], .fz (tTp [(tInt K), (tList (tTp [(tInt K), (tInt K)])), (tOpt (tInt K))]), fun r => r, fun _ => ()⟩
abbrev mplay_S : Type := (Int × (List (Int × Int)) × (Option Int)) × (List (Str × Int)) × Unit
def mplay_t1 (s : mplay_S) : (Int × (List (Int × Int)) × (Option Int)) := s.1
def mplay_v_states_2 (s : mplay_S) : (List (Int × (List (Int × Int)) × (Option Int))) := ([((mplay_t1 s).1, ((mplay_t1 s).2.1), (mplay_t1 s).2.2)] : List (Int × (List (Int × Int)) × (Option Int)))
abbrev mplay_L3M : Type := (List (Int × (List (Int × Int)) × (Option Int)))
def mplay_L3x (s : mplay_S) : List (Str × Int) := s.2.1
def mplay_L3i (s : mplay_S) : mplay_L3M := ((mplay_v_states_2 s))
abbrev mplay_L3T : Type := (mplay_S × mplay_L3M) × (Str × Int)
def mplay_c4 (s : mplay_L3T) : (Int × (List (Int × Int)) × (Option Int)) := mnext_state ((ixI ((0 : Int), ([] : List (Int × Int)), (none : Option Int)) s.1.2 (-(1 : Int))), s.2, ())
def mplay_v_states_5 (s : mplay_L3T) : (List (Int × (List (Int × Int)) × (Option Int))) := (s.1.2 ++ [(mplay_c4 s)])
def mplay_L3s (s : mplay_L3T) : mplay_L3M := ((mplay_v_states_5 s))
def mplay_L3c (s : mplay_L3T) : Prop := Conj [fun s => IxOk s.1.2 (-(1 : Int)), fun s => mnext_state_p ((ixI ((0 : Int), ([] : List (Int × Int)), (none : Option Int)) s.1.2 (-(1 : Int))), s.2, ()), fun s => (s.1.2).length < sizeLine] s
def mplay_L3 (s : mplay_S) : mplay_L3M := LoopF (fun m x => mplay_L3s ((s, m), x)) (mplay_L3x s) (mplay_L3i s)
def mplay (s : mplay_S) : (List (Int × (List (Int × Int)) × (Option Int))) := hide ((mplay_L3 s))
def mplay_p (s : mplay_S) : Prop := Conj [fun s => loopC (fun m x => mplay_L3c ((s, m), x)) (fun m x => mplay_L3s ((s, m), x)) (mplay_L3x s) (mplay_L3i s)] s
abbrev mplay_fm (K : PySem.W.Frag) : Fm K ((List (Int × (List (Int × Int)) × (Option Int)))) := ⟨[.fz (tTp [(tInt K), (tList (tTp [(tInt K), (tInt K)])), (tOpt (tInt K))]), .fz (tList (tTp [(tStr K), (tInt K)]))], .ow (oList (tTp [(tInt K), (tList (tTp [(tInt K), (tInt K)])), (tOpt (tInt K))])), fun r => r, fun _ => ()⟩
abbrev mstates_along_S : Type := (Int × (List (Int × Int)) × (Option Int)) × (List (Str × Int)) × Unit
def mstates_along_c1 (s : mstates_along_S) : Unit := mcheck_state (s.1, ())
def mstates_along_c2 (s : mstates_along_S) : Unit := mcheck_clicks (s.1.1, s.2.1, ())
def mstates_along_c3 (s : mstates_along_S) : Unit := mcheck_can_begin (s.2.1, s.1.2.2, ())
def mstates_along_c4 (s : mstates_along_S) : (List (Int × (List (Int × Int)) × (Option Int))) := mplay (s.1, s.2.1, ())
def mstates_along (s : mstates_along_S) : (List (Int × (List (Int × Int)) × (Option Int))) := hide ((mstates_along_c4 s))
def mstates_along_p (s : mstates_along_S) : Prop := Conj [fun s => mcheck_state_p (s.1, ()), fun s => mcheck_clicks_p (s.1.1, s.2.1, ()), fun s => mcheck_can_begin_p (s.2.1, s.1.2.2, ()), fun s => mplay_p (s.1, s.2.1, ())] s
abbrev mstates_along_fm (K : PySem.W.Frag) : Fm K ((List (Int × (List (Int × Int)) × (Option Int)))) := ⟨[.fz (tTp [(tInt K), (tList (tTp [(tInt K), (tInt K)])), (tOpt (tInt K))]), .fz (tList (tTp [(tStr K), (tInt K)]))], .ow (oList (tTp [(tInt K), (tList (tTp [(tInt K), (tInt K)])), (tOpt (tInt K))])), fun r => r, fun _ => ()⟩
abbrev mstate_after_S : Type := (Int × (List (Int × Int)) × (Option Int)) × (List (Str × Int)) × Unit
def mstate_after_c1 (s : mstate_after_S) : (List (Int × (List (Int × Int)) × (Option Int))) := mstates_along (s.1, s.2.1, ())
def mstate_after (s : mstate_after_S) : (Int × (List (Int × Int)) × (Option Int)) := hide ((ixI ((0 : Int), ([] : List (Int × Int)), (none : Option Int)) (mstate_after_c1 s) (-(1 : Int))))
def mstate_after_p (s : mstate_after_S) : Prop := Conj [fun s => mstates_along_p (s.1, s.2.1, ()), fun s => IxOk (mstate_after_c1 s) (-(1 : Int))] s
abbrev mstate_after_fm (K : PySem.W.Frag) : Fm K ((Int × (List (Int × Int)) × (Option Int))) := ⟨[.fz (tTp [(tInt K), (tList (tTp [(tInt K), (tInt K)])), (tOpt (tInt K))]), .fz (tList (tTp [(tStr K), (tInt K)]))], .fz (tTp [(tInt K), (tList (tTp [(tInt K), (tInt K)])), (tOpt (tInt K))]), fun r => r, fun _ => ()⟩
abbrev m_law_pieces_right_S : Type := (List Int) × (Int × (List (Int × Int)) × (Option Int)) × (List (Str × Int)) × Unit
def m_law_pieces_right_v_along_1 (s : m_law_pieces_right_S) : (List (Int × (List (Int × Int)) × (Option Int))) := ([(s.2.1.1, (s.2.1.2.1), s.2.1.2.2)] : List (Int × (List (Int × Int)) × (Option Int)))
def m_law_pieces_right_v_at_2 (s : m_law_pieces_right_S) : Int := (0 : Int)
abbrev m_law_pieces_right_L3M : Type := ((List Int) × (Int × (List (Int × Int)) × (Option Int)) × (List (Int × (List (Int × Int)) × (Option Int))) × Int)
def m_law_pieces_right_L3i (s : m_law_pieces_right_S) : m_law_pieces_right_L3M := (s.1, s.2.1, (m_law_pieces_right_v_along_1 s), (m_law_pieces_right_v_at_2 s))
abbrev m_law_pieces_right_L3T : Type := (m_law_pieces_right_S × m_law_pieces_right_L3M) × Unit
def m_law_pieces_right_c4 (s : m_law_pieces_right_L3T) : (List Int) × Int := m_law_draw (s.1.2.1, (20 : Int), ())
def m_law_pieces_right_v_size_here_5 (s : m_law_pieces_right_L3T) : Int := ((1 : Int) + (m_law_pieces_right_c4 s).2)
def m_law_pieces_right_c6 (s : m_law_pieces_right_L3T) : (List (Int × (List (Int × Int)) × (Option Int))) := mstates_along (s.1.2.2.1, (cutL s.1.1.2.2.1 (some s.1.2.2.2.2) (some (s.1.2.2.2.2 + (m_law_pieces_right_v_size_here_5 s)))), ())
def m_law_pieces_right_v_along_7 (s : m_law_pieces_right_L3T) : (List (Int × (List (Int × Int)) × (Option Int))) := (s.1.2.2.2.1 ++ (cutL (m_law_pieces_right_c6 s) (some (1 : Int)) none))
def m_law_pieces_right_c8 (s : m_law_pieces_right_L3T) : (Int × (List (Int × Int)) × (Option Int)) := mstate_after (s.1.2.2.1, (cutL s.1.1.2.2.1 (some s.1.2.2.2.2) (some (s.1.2.2.2.2 + (m_law_pieces_right_v_size_here_5 s)))), ())
def m_law_pieces_right_v_at_9 (s : m_law_pieces_right_L3T) : Int := (s.1.2.2.2.2 + (m_law_pieces_right_v_size_here_5 s))
def m_law_pieces_right_L3h (s : m_law_pieces_right_L3T) : Bool := (decide (s.1.2.2.2.2 < ((s.1.1.2.2.1).length : Int)))
def m_law_pieces_right_L3t (s : m_law_pieces_right_L3T) : Prop := Conj [] s
def m_law_pieces_right_L3s (s : m_law_pieces_right_L3T) : m_law_pieces_right_L3M := ((m_law_pieces_right_c4 s).1, (m_law_pieces_right_c8 s), (m_law_pieces_right_v_along_7 s), (m_law_pieces_right_v_at_9 s))
def m_law_pieces_right_L3c (s : m_law_pieces_right_L3T) : Prop := Conj [fun s => m_law_draw_p (s.1.2.1, (20 : Int), ()), fun s => mstates_along_p (s.1.2.2.1, (cutL s.1.1.2.2.1 (some s.1.2.2.2.2) (some (s.1.2.2.2.2 + (m_law_pieces_right_v_size_here_5 s)))), ()), fun s => (s.1.2.2.2.1).length + ((cutL (m_law_pieces_right_c6 s) (some (1 : Int)) none)).length ≤ sizeLine, fun s => mstate_after_p (s.1.2.2.1, (cutL s.1.1.2.2.1 (some s.1.2.2.2.2) (some (s.1.2.2.2.2 + (m_law_pieces_right_v_size_here_5 s)))), ())] s
def m_law_pieces_right_L3 (s : m_law_pieces_right_S) : m_law_pieces_right_L3M := LoopW (fun m => m_law_pieces_right_L3h ((s, m), ())) (fun m => m_law_pieces_right_L3s ((s, m), ())) (m_law_pieces_right_L3i s)
def m_law_pieces_right_c10 (s : m_law_pieces_right_S) : (List (Int × (List (Int × Int)) × (Option Int))) := mstates_along (s.2.1, s.2.2.1, ())
def m_law_pieces_right_c11 (s : m_law_pieces_right_S) : (Int × (List (Int × Int)) × (Option Int)) := mstate_after (s.2.1, s.2.2.1, ())
def m_law_pieces_right (s : m_law_pieces_right_S) : (List Int) × Bool := hide (((m_law_pieces_right_L3 s).1, ((((dfList (dfT3 dfInt (dfList (dfT2 dfInt dfInt)) (dfOpt dfInt)))).eq (m_law_pieces_right_L3 s).2.2.1 (m_law_pieces_right_c10 s)) && (((dfT3 dfInt (dfList (dfT2 dfInt dfInt)) (dfOpt dfInt))).eq (m_law_pieces_right_L3 s).2.1 (m_law_pieces_right_c11 s)))))
def m_law_pieces_right_p (s : m_law_pieces_right_S) : Prop := Conj [fun s => whileC (fun m => m_law_pieces_right_L3t ((s, m), ())) (fun m => m_law_pieces_right_L3h ((s, m), ())) (fun m => m_law_pieces_right_L3c ((s, m), ())) (fun m => m_law_pieces_right_L3s ((s, m), ())) turns (m_law_pieces_right_L3i s), fun s => mstates_along_p (s.2.1, s.2.2.1, ()), fun s => (((dfList (dfT3 dfInt (dfList (dfT2 dfInt dfInt)) (dfOpt dfInt)))).eq (m_law_pieces_right_L3 s).2.2.1 (m_law_pieces_right_c10 s)) = true → mstate_after_p (s.2.1, s.2.2.1, ())] s
abbrev m_law_pieces_right_fm (K : PySem.W.Frag) : Fm K ((List Int) × Bool) := ⟨[.mu (oList (tInt K)), .fz (tTp [(tInt K), (tList (tTp [(tInt K), (tInt K)])), (tOpt (tInt K))]), .fz (tList (tTp [(tStr K), (tInt K)]))], .fz (tBool K), fun r => r.2, fun r => (r.1, ())⟩
abbrev m_law_idle_right_S : Type := (List Int) × (Int × (List (Int × Int)) × (Option Int)) × (List (Str × Int)) × Unit
def m_law_idle_right_c1 (s : m_law_idle_right_S) : (List Int) × Int := m_law_draw (s.1, (((s.2.2.1).length : Int) + (1 : Int)), ())
def m_law_idle_right_c2 (s : m_law_idle_right_S) : (Int × (List (Int × Int)) × (Option Int)) := mstate_after (s.2.1, (cutL s.2.2.1 none (some (m_law_idle_right_c1 s).2)), ())
def m_law_idle_right_c3 (s : m_law_idle_right_S) : (List Int) × Int := m_law_item ((m_law_idle_right_c1 s).1, s.2.1.1, (0 : Int), ())
def m_law_idle_right_c4 (s : m_law_idle_right_S) : (Int × (List (Int × Int)) × (Option Int)) := mstate_after ((m_law_idle_right_c2 s), (repL ([(("click" : Str), (m_law_idle_right_c3 s).2)] : List (Str × Int)) (2 : Int)), ())
def m_law_idle_right_c5 (s : m_law_idle_right_S) : (Int × (List (Int × Int)) × (Option Int)) := mstate_after ((m_law_idle_right_c2 s), ([(("range" : Str), (m_law_idle_right_c3 s).2)] : List (Str × Int)), ())
def m_law_idle_right_c6 (s : m_law_idle_right_S) : (Int × (List (Int × Int)) × (Option Int)) := mstate_after ((m_law_idle_right_c5 s), ([(("range" : Str), (m_law_idle_right_c3 s).2)] : List (Str × Int)), ())
def m_law_idle_right_c7 (s : m_law_idle_right_S) : (Int × (List (Int × Int)) × (Option Int)) := mstate_after ((m_law_idle_right_c2 s), ([(("range" : Str), (((m_law_idle_right_c2 s).2.2).getD (0 : Int)))] : List (Str × Int)), ())
def m_law_idle_right_h8 (s : m_law_idle_right_S) : Bool := ((!((dfT3 dfInt (dfList (dfT2 dfInt dfInt)) (dfOpt dfInt))).eq (m_law_idle_right_c6 s) (m_law_idle_right_c5 s)) || (!((dfT3 dfInt (dfList (dfT2 dfInt dfInt)) (dfOpt dfInt))).eq (m_law_idle_right_c7 s) (m_law_idle_right_c2 s)))
def m_law_idle_right_h9 (s : m_law_idle_right_S) : Bool := ((m_law_idle_right_c2 s).2.2).isSome
def m_law_idle_right_c10 (s : m_law_idle_right_S) : (Int × (List (Int × Int)) × (Option Int)) := mstate_after ((m_law_idle_right_c4 s), (repL ([(("click" : Str), (if ((m_law_idle_right_c2 s).2.2).getD 0 = 0 then (0 : Int) else ((m_law_idle_right_c2 s).2.2).getD 0))] : List (Str × Int)) (2 : Int)), ())
def m_law_idle_right (s : m_law_idle_right_S) : (List Int) × Bool := hide ((if (!((dfT3 dfInt (dfList (dfT2 dfInt dfInt)) (dfOpt dfInt))).eq (m_law_idle_right_c4 s) ((m_law_idle_right_c2 s).1, (m_law_idle_right_c2 s).2.1, (some (m_law_idle_right_c3 s).2))) = true then ((m_law_idle_right_c3 s).1, false) else (orElse (if (m_law_idle_right_h9 s) = true then (orElseO (if (m_law_idle_right_h8 s) = true then (some ((m_law_idle_right_c3 s).1, false)) else none) none) else none) ((m_law_idle_right_c3 s).1, (((dfList (dfT2 dfInt dfInt))).eq (m_law_idle_right_c10 s).2.1 (m_law_idle_right_c2 s).2.1)))))
def m_law_idle_right_p (s : m_law_idle_right_S) : Prop := Conj [fun s => m_law_draw_p (s.1, (((s.2.2.1).length : Int) + (1 : Int)), ()), fun s => mstate_after_p (s.2.1, (cutL s.2.2.1 none (some (m_law_idle_right_c1 s).2)), ()), fun s => m_law_item_p ((m_law_idle_right_c1 s).1, s.2.1.1, (0 : Int), ()), fun s => RepOk ([(("click" : Str), (m_law_idle_right_c3 s).2)] : List (Str × Int)) (2 : Int), fun s => mstate_after_p ((m_law_idle_right_c2 s), (repL ([(("click" : Str), (m_law_idle_right_c3 s).2)] : List (Str × Int)) (2 : Int)), ()), fun s => if (!((dfT3 dfInt (dfList (dfT2 dfInt dfInt)) (dfOpt dfInt))).eq (m_law_idle_right_c4 s) ((m_law_idle_right_c2 s).1, (m_law_idle_right_c2 s).2.1, (some (m_law_idle_right_c3 s).2))) = true then Conj [] s else Conj [fun s => (m_law_idle_right_h9 s) = true → mstate_after_p ((m_law_idle_right_c2 s), ([(("range" : Str), (m_law_idle_right_c3 s).2)] : List (Str × Int)), ()), fun s => (m_law_idle_right_h9 s) = true → mstate_after_p ((m_law_idle_right_c5 s), ([(("range" : Str), (m_law_idle_right_c3 s).2)] : List (Str × Int)), ()), fun s => (m_law_idle_right_h9 s) = true → (!((dfT3 dfInt (dfList (dfT2 dfInt dfInt)) (dfOpt dfInt))).eq (m_law_idle_right_c6 s) (m_law_idle_right_c5 s)) = false → ((m_law_idle_right_c2 s).2.2).isSome = true, fun s => (m_law_idle_right_h9 s) = true → (!((dfT3 dfInt (dfList (dfT2 dfInt dfInt)) (dfOpt dfInt))).eq (m_law_idle_right_c6 s) (m_law_idle_right_c5 s)) = false → mstate_after_p ((m_law_idle_right_c2 s), ([(("range" : Str), (((m_law_idle_right_c2 s).2.2).getD (0 : Int)))] : List (Str × Int)), ()), fun s => (m_law_idle_right_h9 s) = true → (if (m_law_idle_right_h8 s) = true then (some ((m_law_idle_right_c3 s).1, false)) else none) = none → Conj [] s, fun s => (if (m_law_idle_right_h9 s) = true then (orElseO (if (m_law_idle_right_h8 s) = true then (some ((m_law_idle_right_c3 s).1, false)) else none) none) else none) = none → Conj [fun s => RepOk ([(("click" : Str), (if ((m_law_idle_right_c2 s).2.2).getD 0 = 0 then (0 : Int) else ((m_law_idle_right_c2 s).2.2).getD 0))] : List (Str × Int)) (2 : Int), fun s => mstate_after_p ((m_law_idle_right_c4 s), (repL ([(("click" : Str), (if ((m_law_idle_right_c2 s).2.2).getD 0 = 0 then (0 : Int) else ((m_law_idle_right_c2 s).2.2).getD 0))] : List (Str × Int)) (2 : Int)), ())] s] s] s
abbrev m_law_idle_right_fm (K : PySem.W.Frag) : Fm K ((List Int) × Bool) := ⟨[.mu (oList (tInt K)), .fz (tTp [(tInt K), (tList (tTp [(tInt K), (tInt K)])), (tOpt (tInt K))]), .fz (tList (tTp [(tStr K), (tInt K)]))], .fz (tBool K), fun r => r.2, fun r => (r.1, ())⟩
abbrev mlaw_S : Type := (List Int) × Unit
def mlaw_c1 (s : mlaw_S) : (List Int) := m_law_cells (s.1, (8 : Int), ())
abbrev mlaw_L2M : Type := Unit
def mlaw_L2x (s : mlaw_S) : List (Int × Int) := (enumL (mlaw_c1 s))
def mlaw_L2i (s : mlaw_S) : mlaw_L2M := ()
abbrev mlaw_L2T : Type := (mlaw_S × mlaw_L2M) × (Int × Int)
def mlaw_c3 (s : mlaw_L2T) : (List Int) := m_law_source (s.2.2, s.2.1, ())
def mlaw_c4 (s : mlaw_L2T) : (List Int) × (Int × (List (Int × Int)) × (Option Int)) := m_law_start ((mlaw_c3 s), s.1.1.1, (100 : Int), ())
def mlaw_c5 (s : mlaw_L2T) : (List Int) × (List (Str × Int)) := m_law_pressed ((mlaw_c4 s).1, (mlaw_c4 s).2.1, (if (((dfList dfInt)).eq s.1.1.1 ([] : List Int)) = true then (4 : Int) else (180 : Int)), (mlaw_c4 s).2.2.2, ())
def mlaw_c6 (s : mlaw_L2T) : (List Int) × Bool := m_law_pieces_right ((mlaw_c5 s).1, (mlaw_c4 s).2, (mlaw_c5 s).2, ())
def mlaw_h7 (s : mlaw_L2T) : Bool := (!(mlaw_c6 s).2)
abbrev mlaw_L8M : Type := (List Int)
def mlaw_L8x (s : mlaw_L2T) : List Int := (rangeL (3 : Int))
def mlaw_L8i (s : mlaw_L2T) : mlaw_L8M := ((mlaw_c6 s).1)
abbrev mlaw_L8T : Type := (mlaw_L2T × mlaw_L8M) × Int
def mlaw_c9 (s : mlaw_L8T) : (List Int) × Bool := m_law_idle_right (s.1.2, (mlaw_c4 s.1.1).2, (mlaw_c5 s.1.1).2, ())
def mlaw_h10 (s : mlaw_L8T) : Bool := (!(mlaw_c9 s).2)
def mlaw_L8s (s : mlaw_L8T) : mlaw_L8M := ((mlaw_c9 s).1)
def mlaw_L8c (s : mlaw_L8T) : Prop := Conj [fun s => m_law_idle_right_p (s.1.2, (mlaw_c4 s.1.1).2, (mlaw_c5 s.1.1).2, ()), fun s => (if (mlaw_h10 s) = true then (some false) else none) = none → Conj [] s] s
def mlaw_L8 (s : mlaw_L2T) : mlaw_L8M := LoopF (fun m x => mlaw_L8s ((s, m), x)) (mlaw_L8x s) (mlaw_L8i s)
def mlaw_L8r (s : mlaw_L8T) : Option (Bool) := (orElseO (if (mlaw_h10 s) = true then (some false) else none) none)
def mlaw_L8R (s : mlaw_L2T) : Option (Bool) := LoopR (fun m x => mlaw_L8r ((s, m), x)) (fun m x => mlaw_L8s ((s, m), x)) (mlaw_L8x s) (mlaw_L8i s)
def mlaw_L2s (s : mlaw_L2T) : mlaw_L2M := ()
def mlaw_L2c (s : mlaw_L2T) : Prop := Conj [fun s => m_law_source_p (s.2.2, s.2.1, ()), fun s => m_law_start_p ((mlaw_c3 s), s.1.1.1, (100 : Int), ()), fun s => m_law_pressed_p ((mlaw_c4 s).1, (mlaw_c4 s).2.1, (if (((dfList dfInt)).eq s.1.1.1 ([] : List Int)) = true then (4 : Int) else (180 : Int)), (mlaw_c4 s).2.2.2, ()), fun s => m_law_pieces_right_p ((mlaw_c5 s).1, (mlaw_c4 s).2, (mlaw_c5 s).2, ()), fun s => (if (mlaw_h7 s) = true then (some false) else none) = none → Conj [fun s => RgOk (3 : Int), fun s => loopCr (fun m x => mlaw_L8c ((s, m), x)) (fun m x => mlaw_L8r ((s, m), x)) (fun m x => mlaw_L8s ((s, m), x)) (mlaw_L8x s) (mlaw_L8i s), fun s => (mlaw_L8R s) = none → Conj [] s] s] s
def mlaw_L2 (s : mlaw_S) : mlaw_L2M := LoopF (fun m x => mlaw_L2s ((s, m), x)) (mlaw_L2x s) (mlaw_L2i s)
def mlaw_L2r (s : mlaw_L2T) : Option (Bool) := (orElseO (if (mlaw_h7 s) = true then (some false) else none) (orElseO (mlaw_L8R s) none))
def mlaw_L2R (s : mlaw_S) : Option (Bool) := LoopR (fun m x => mlaw_L2r ((s, m), x)) (fun m x => mlaw_L2s ((s, m), x)) (mlaw_L2x s) (mlaw_L2i s)
def mlaw (s : mlaw_S) : Bool := hide ((orElse (mlaw_L2R s) true))
def mlaw_p (s : mlaw_S) : Prop := Conj [fun s => m_law_cells_p (s.1, (8 : Int), ()), fun s => loopCr (fun m x => mlaw_L2c ((s, m), x)) (fun m x => mlaw_L2r ((s, m), x)) (fun m x => mlaw_L2s ((s, m), x)) (mlaw_L2x s) (mlaw_L2i s), fun s => (mlaw_L2R s) = none → Conj [] s] s
abbrev mlaw_fm (K : PySem.W.Frag) : Fm K (Bool) := ⟨[.fz (tScr K)], .fz (tBool K), fun r => r, fun _ => ()⟩
section
variable {P : Program} {w : World} {K : PySem.W.Frag} {mg : Str → Option Value} {base : Heap}
def topS (i : Nat) : Stmt := PySem.Challenge.pw_rangeclicks_k19_whole_click_lists_joined.main.body.getD i (.Pass ⟨0, 0, 0, 0⟩)
structure Tx (K : PySem.W.Frag) (mg : Str → Option Value) where
  a33 : Addr
  d33 : FuncData
  F33 : Fun K "_law_cells" "_law_cells" (topS 33) a33 d33
  g33 : mg "_law_cells" = some (.ref a33)
  b33 : Binds K d33 ["_law_script", "_law_count"] []
  a31 : Addr
  d31 : FuncData
  F31 : Fun K "_law_source" "_law_source" (topS 31) a31 d31
  g31 : mg "_law_source" = some (.ref a31)
  b31 : Binds K d31 ["_law_cell", "_law_index"] []
  a32 : Addr
  d32 : FuncData
  F32 : Fun K "_law_draw" "_law_draw" (topS 32) a32 d32
  g32 : mg "_law_draw" = some (.ref a32)
  b32 : Binds K d32 ["_law_source_here", "_law_count"] []
  a34 : Addr
  d34 : FuncData
  F34 : Fun K "_law_size" "_law_size" (topS 34) a34 d34
  g34 : mg "_law_size" = some (.ref a34)
  b34 : Binds K d34 ["_law_source_here", "_law_script"] []
  a36 : Addr
  d36 : FuncData
  F36 : Fun K "_law_marked" "_law_marked" (topS 36) a36 d36
  g36 : mg "_law_marked" = some (.ref a36)
  b36 : Binds K d36 ["_law_source_here", "_law_size_here", "_law_most"] []
  a38 : Addr
  d38 : FuncData
  F38 : Fun K "_law_start" "_law_start" (topS 38) a38 d38
  g38 : mg "_law_start" = some (.ref a38)
  b38 : Binds K d38 ["_law_source_here", "_law_script", "_law_most"] []
  a35 : Addr
  d35 : FuncData
  F35 : Fun K "_law_item" "_law_item" (topS 35) a35 d35
  g35 : mg "_law_item" = some (.ref a35)
  b35 : Binds K d35 ["_law_source_here", "_law_size_here", "_law_near"] []
  a37 : Addr
  d37 : FuncData
  F37 : Fun K "_law_pressed" "_law_pressed" (topS 37) a37 d37
  g37 : mg "_law_pressed" = some (.ref a37)
  b37 : Binds K d37 ["_law_source_here", "_law_size_here", "_law_most", "_law_anchor"] []
  a8 : Addr
  d8 : FuncData
  F8 : Fun K "is_integer" "is_integer" (topS 8) a8 d8
  g8 : mg "is_integer" = some (.ref a8)
  b8 : Binds K d8 ["value", "least", "most"] []
  a9 : Addr
  d9 : FuncData
  F9 : Fun K "check_items" "check_items" (topS 9) a9 d9
  g9 : mg "check_items" = some (.ref a9)
  b9 : Binds K d9 ["items"] []
  a10 : Addr
  d10 : FuncData
  F10 : Fun K "is_run" "is_run" (topS 10) a10 d10
  g10 : mg "is_run" = some (.ref a10)
  b10 : Binds K d10 ["items", "value"] []
  a11 : Addr
  d11 : FuncData
  F11 : Fun K "are_runs" "are_runs" (topS 11) a11 d11
  g11 : mg "are_runs" = some (.ref a11)
  b11 : Binds K d11 ["items", "value"] []
  a12 : Addr
  d12 : FuncData
  F12 : Fun K "is_selection" "is_selection" (topS 12) a12 d12
  g12 : mg "is_selection" = some (.ref a12)
  b12 : Binds K d12 ["items", "value"] []
  a21 : Addr
  d21 : FuncData
  F21 : Fun K "is_state" "is_state" (topS 21) a21 d21
  g21 : mg "is_state" = some (.ref a21)
  b21 : Binds K d21 ["value"] []
  a22 : Addr
  d22 : FuncData
  F22 : Fun K "check_state" "check_state" (topS 22) a22 d22
  g22 : mg "check_state" = some (.ref a22)
  b22 : Binds K d22 ["state"] []
  a18 : Addr
  d18 : FuncData
  F18 : Fun K "is_click" "is_click" (topS 18) a18 d18
  g18 : mg "is_click" = some (.ref a18)
  b18 : Binds K d18 ["items", "value"] []
  a19 : Addr
  d19 : FuncData
  F19 : Fun K "check_clicks" "check_clicks" (topS 19) a19 d19
  g19 : mg "check_clicks" = some (.ref a19)
  b19 : Binds K d19 ["items", "clicks"] []
  a20 : Addr
  d20 : FuncData
  F20 : Fun K "check_can_begin" "check_can_begin" (topS 20) a20 d20
  g20 : mg "check_can_begin" = some (.ref a20)
  b20 : Binds K d20 ["clicks", "anchor"] []
  a13 : Addr
  d13 : FuncData
  F13 : Fun K "borders_in" "borders_in" (topS 13) a13 d13
  g13 : mg "borders_in" = some (.ref a13)
  b13 : Binds K d13 ["selection"] []
  a14 : Addr
  d14 : FuncData
  F14 : Fun K "from_borders" "from_borders" (topS 14) a14 d14
  g14 : mg "from_borders" = some (.ref a14)
  b14 : Binds K d14 ["borders"] []
  a24 : Addr
  d24 : FuncData
  F24 : Fun K "with_click" "with_click" (topS 24) a24 d24
  g24 : mg "with_click" = some (.ref a24)
  b24 : Binds K d24 ["selection", "item"] []
  a23 : Addr
  d23 : FuncData
  F23 : Fun K "marked_in" "marked_in" (topS 23) a23 d23
  g23 : mg "marked_in" = some (.ref a23)
  b23 : Binds K d23 ["selection", "item"] []
  a25 : Addr
  d25 : FuncData
  F25 : Fun K "with_range" "with_range" (topS 25) a25 d25
  g25 : mg "with_range" = some (.ref a25)
  b25 : Binds K d25 ["selection", "first", "last", "marked"] []
  a26 : Addr
  d26 : FuncData
  F26 : Fun K "next_state" "next_state" (topS 26) a26 d26
  g26 : mg "next_state" = some (.ref a26)
  b26 : Binds K d26 ["state", "click"] []
  a27 : Addr
  d27 : FuncData
  F27 : Fun K "play" "play" (topS 27) a27 d27
  g27 : mg "play" = some (.ref a27)
  b27 : Binds K d27 ["state", "clicks"] []
  a28 : Addr
  d28 : FuncData
  F28 : Fun K "states_along" "states_along" (topS 28) a28 d28
  g28 : mg "states_along" = some (.ref a28)
  b28 : Binds K d28 ["state", "clicks"] []
  a29 : Addr
  d29 : FuncData
  F29 : Fun K "state_after" "state_after" (topS 29) a29 d29
  g29 : mg "state_after" = some (.ref a29)
  b29 : Binds K d29 ["state", "clicks"] []
  a39 : Addr
  d39 : FuncData
  F39 : Fun K "_law_pieces_right" "_law_pieces_right" (topS 39) a39 d39
  g39 : mg "_law_pieces_right" = some (.ref a39)
  b39 : Binds K d39 ["_law_source_here", "_law_start_here", "_law_pressed_here"] []
  a40 : Addr
  d40 : FuncData
  F40 : Fun K "_law_idle_right" "_law_idle_right" (topS 40) a40 d40
  g40 : mg "_law_idle_right" = some (.ref a40)
  b40 : Binds K d40 ["_law_source_here", "_law_start_here", "_law_pressed_here"] []
  a41 : Addr
  d41 : FuncData
  F41 : Fun K "law" "law" (topS 41) a41 d41
  g41 : mg "law" = some (.ref a41)
  b41 : Binds K d41 ["_law_script"] []
  n_all : mg "all" = none
  n_any : mg "any" = none
  n_bool : mg "bool" = none
  n_enumerate : mg "enumerate" = none
  n_int : mg "int" = none
  n_isinstance : mg "isinstance" = none
  n_len : mg "len" = none
  n_list : mg "list" = none
  n_max : mg "max" = none
  n_min : mg "min" = none
  n_range : mg "range" = none
  n_sorted : mg "sorted" = none
  n_tuple : mg "tuple" = none
  n_zip : mg "zip" = none
  t_CLICK : Tok
  c_CLICK : mg "CLICK" = some (.str "click" t_CLICK)
  t_MOST_ITEMS : Tok
  c_MOST_ITEMS : mg "MOST_ITEMS" = some (.int 1000000000000000000000000000000 t_MOST_ITEMS)
  t_RANGE : Tok
  c_RANGE : mg "RANGE" = some (.str "range" t_RANGE)
theorem sc33 : FnScope ["_law_script", "_law_count"] ["_law_script", "_law_count"] (defScope (topS 33)) := ⟨rfl, rfl, rfl, by decide +kernel, rfl, by decide +kernel, by decide +kernel⟩
theorem sc31 : FnScope ["_law_cell", "_law_index"] ["_law_cell", "_law_index"] (defScope (topS 31)) := ⟨rfl, rfl, rfl, by decide +kernel, rfl, by decide +kernel, by decide +kernel⟩
theorem sc32 : FnScope ["_law_source_here", "_law_count", "_law_digit"] ["_law_source_here", "_law_count"] (defScope (topS 32)) := ⟨rfl, rfl, rfl, by decide +kernel, rfl, by decide +kernel, by decide +kernel⟩
theorem sc34 : FnScope ["_law_source_here", "_law_script", "_law_some"] ["_law_source_here", "_law_script"] (defScope (topS 34)) := ⟨rfl, rfl, rfl, by decide +kernel, rfl, by decide +kernel, by decide +kernel⟩
theorem sc36 : FnScope ["_law_source_here", "_law_size_here", "_law_most", "_law_found", "_law_at", "_law_k", "_law_last"] ["_law_source_here", "_law_size_here", "_law_most"] (defScope (topS 36)) := ⟨rfl, rfl, rfl, by decide +kernel, rfl, by decide +kernel, by decide +kernel⟩
theorem sc38 : FnScope ["_law_source_here", "_law_script", "_law_most", "_law_size_here", "_law_runs", "_law_anchor"] ["_law_source_here", "_law_script", "_law_most"] (defScope (topS 38)) := ⟨rfl, rfl, rfl, by decide +kernel, rfl, by decide +kernel, by decide +kernel⟩
theorem sc35 : FnScope ["_law_source_here", "_law_size_here", "_law_near", "_law_some"] ["_law_source_here", "_law_size_here", "_law_near"] (defScope (topS 35)) := ⟨rfl, rfl, rfl, by decide +kernel, rfl, by decide +kernel, by decide +kernel⟩
theorem sc37 : FnScope ["_law_source_here", "_law_size_here", "_law_most", "_law_anchor", "_law_found", "_law_near", "_law_k", "_law_is_range"] ["_law_source_here", "_law_size_here", "_law_most", "_law_anchor"] (defScope (topS 37)) := ⟨rfl, rfl, rfl, by decide +kernel, rfl, by decide +kernel, by decide +kernel⟩
theorem sc8 : FnScope ["value", "least", "most"] ["value", "least", "most"] (defScope (topS 8)) := ⟨rfl, rfl, rfl, by decide +kernel, rfl, by decide +kernel, by decide +kernel⟩
theorem sc9 : FnScope ["items"] ["items"] (defScope (topS 9)) := ⟨rfl, rfl, rfl, by decide +kernel, rfl, by decide +kernel, by decide +kernel⟩
theorem sc10 : FnScope ["items", "value"] ["items", "value"] (defScope (topS 10)) := ⟨rfl, rfl, rfl, by decide +kernel, rfl, by decide +kernel, by decide +kernel⟩
theorem sc11 : FnScope ["items", "value", "run", "one", "other"] ["items", "value"] (defScope (topS 11)) := ⟨rfl, rfl, rfl, by decide +kernel, rfl, by decide +kernel, by decide +kernel⟩
theorem sc12 : FnScope ["items", "value"] ["items", "value"] (defScope (topS 12)) := ⟨rfl, rfl, rfl, by decide +kernel, rfl, by decide +kernel, by decide +kernel⟩
theorem sc21 : FnScope ["value", "items", "selection", "anchor"] ["value"] (defScope (topS 21)) := ⟨rfl, rfl, rfl, by decide +kernel, rfl, by decide +kernel, by decide +kernel⟩
theorem sc22 : FnScope ["state"] ["state"] (defScope (topS 22)) := ⟨rfl, rfl, rfl, by decide +kernel, rfl, by decide +kernel, by decide +kernel⟩
theorem sc18 : FnScope ["items", "value"] ["items", "value"] (defScope (topS 18)) := ⟨rfl, rfl, rfl, by decide +kernel, rfl, by decide +kernel, by decide +kernel⟩
theorem sc19 : FnScope ["items", "clicks", "index", "click"] ["items", "clicks"] (defScope (topS 19)) := ⟨rfl, rfl, rfl, by decide +kernel, rfl, by decide +kernel, by decide +kernel⟩
theorem sc20 : FnScope ["clicks", "anchor"] ["clicks", "anchor"] (defScope (topS 20)) := ⟨rfl, rfl, rfl, by decide +kernel, rfl, by decide +kernel, by decide +kernel⟩
theorem sc13 : FnScope ["selection", "borders", "first", "last"] ["selection"] (defScope (topS 13)) := ⟨rfl, rfl, rfl, by decide +kernel, rfl, by decide +kernel, by decide +kernel⟩
theorem sc14 : FnScope ["borders", "first", "end"] ["borders"] (defScope (topS 14)) := ⟨rfl, rfl, rfl, by decide +kernel, rfl, by decide +kernel, by decide +kernel⟩
theorem sc24 : FnScope ["selection", "item", "borders", "ends", "border", "kept"] ["selection", "item"] (defScope (topS 24)) := ⟨rfl, rfl, rfl, by decide +kernel, rfl, by decide +kernel, by decide +kernel⟩
theorem sc23 : FnScope ["selection", "item", "first", "last"] ["selection", "item"] (defScope (topS 23)) := ⟨rfl, rfl, rfl, by decide +kernel, rfl, by decide +kernel, by decide +kernel⟩
theorem sc25 : FnScope ["selection", "first", "last", "marked", "border", "borders"] ["selection", "first", "last", "marked"] (defScope (topS 25)) := ⟨rfl, rfl, rfl, by decide +kernel, rfl, by decide +kernel, by decide +kernel⟩
theorem sc26 : FnScope ["state", "click", "items", "selection", "anchor", "kind", "item", "marked"] ["state", "click"] (defScope (topS 26)) := ⟨rfl, rfl, rfl, by decide +kernel, rfl, by decide +kernel, by decide +kernel⟩
theorem sc27 : FnScope ["state", "clicks", "items", "selection", "anchor", "states", "click"] ["state", "clicks"] (defScope (topS 27)) := ⟨rfl, rfl, rfl, by decide +kernel, rfl, by decide +kernel, by decide +kernel⟩
theorem sc28 : FnScope ["state", "clicks"] ["state", "clicks"] (defScope (topS 28)) := ⟨rfl, rfl, rfl, by decide +kernel, rfl, by decide +kernel, by decide +kernel⟩
theorem sc29 : FnScope ["state", "clicks"] ["state", "clicks"] (defScope (topS 29)) := ⟨rfl, rfl, rfl, by decide +kernel, rfl, by decide +kernel, by decide +kernel⟩
theorem sc39 : FnScope ["_law_source_here", "_law_start_here", "_law_pressed_here", "_law_here", "_law_along", "_law_at", "_law_size_here"] ["_law_source_here", "_law_start_here", "_law_pressed_here"] (defScope (topS 39)) := ⟨rfl, rfl, rfl, by decide +kernel, rfl, by decide +kernel, by decide +kernel⟩
theorem sc40 : FnScope ["_law_source_here", "_law_start_here", "_law_pressed_here", "_law_at", "_law_middle", "_law_item_here", "_law_twice", "_law_once"] ["_law_source_here", "_law_start_here", "_law_pressed_here"] (defScope (topS 40)) := ⟨rfl, rfl, rfl, by decide +kernel, rfl, by decide +kernel, by decide +kernel⟩
theorem sc41 : FnScope ["_law_script", "_law_k", "_law_cell", "_law_source_here", "_law_start_here", "_law_pressed_here", "_law_turn"] ["_law_script"] (defScope (topS 41)) := ⟨rfl, rfl, rfl, by decide +kernel, rfl, by decide +kernel, by decide +kernel⟩
theorem m_law_cells_ok (T : Tx K mg) : FnG P w K mg base CX0 1 T.a33 T.d33 ["_law_script", "_law_count"] (SpOf (m_law_cells_fm K) m_law_cells_p m_law_cells) := by
  refine def_ok T.F33 sc33 rfl (by decide) fun cdv A outer s H E hr => ?_
  exact def_fin (Δ := ([.fz (tScr K) (fun (s : m_law_cells_S) => s.1), .fz (tInt K) (fun (s : m_law_cells_S) => s.2.1)] : Ctx K m_law_cells_S)) (p := m_law_cells_p) (fv := m_law_cells) (
    DR.retO (f := fun (s : m_law_cells_S) => ((cutL s.1 none (some s.2.1)) ++ (repL ([(0 : Int)] : List Int) (b2I (((dfList dfInt)).eq s.1 ([] : List Int)))))) (DO.cat ll_list ll_list (DX.ofL (DO.sl ll_scr (DX.var (i := 0) rfl) DPo.none (DPo.some (DX.var (i := 1) rfl)))) (DX.ofL (DO.rep (DX.ofL (DO.lst (τ := (tInt K)) (DL.cons DX.int DL.nil) (hl := fun _ => (by decide : 1 ≤ sizeLine)))) (DX.intB T.n_int (DX.eq hr.rm dat_scr (DX.var (i := 0) rfl) (DX.scrL (DX.ofL (DO.lst (τ := (tInt K)) DL.nil (hl := fun _ => (by decide : 0 ≤ sizeLine))))) (hn := n64 (m := 2) rfl)))))) (OwnAll.all (by exact trivial)) (.fz (.fz .nil)) ⟨rfl, fun _ => HEq.rfl, fun _ => rfl⟩
    ) (by exact fun _ => (hide_eq _).symm) (by exact fun _ h => h)
theorem m_law_source_ok (T : Tx K mg) : FnG P w K mg base CX0 1 T.a31 T.d31 ["_law_cell", "_law_index"] (SpOf (m_law_source_fm K) m_law_source_p m_law_source) := by
  refine def_ok T.F31 sc31 rfl (by decide) fun cdv A outer s H E hr => ?_
  exact def_fin (Δ := ([.fz (tInt K) (fun (s : m_law_source_S) => s.1), .fz (tInt K) (fun (s : m_law_source_S) => s.2.1)] : Ctx K m_law_source_S)) (p := m_law_source_p) (fv := m_law_source) (
    DR.retO (f := fun (s : m_law_source_S) => ([(max (0 : Int) (s.1 - ((10 : Int) ^ ((18 : Int)).toNat))), ((((s.1 % (((10 : Int) ^ ((38 : Int)).toNat) + (133 : Int))) ^ ((3 : Int)).toNat) + ((857567 : Int) * s.2.1)) + (223606797749978969 : Int)), (0 : Int)] : List Int)) (DO.lst (τ := (tInt K)) (DL.cons (DX.max2 T.n_max DX.int (DX.sub (DX.var (i := 0) rfl) (DX.pow DX.int DX.int))) (DL.cons (DX.add (DX.add (DX.pow (DX.mod (DX.var (i := 0) rfl) (DX.add (DX.pow DX.int DX.int) DX.int)) DX.int) (DX.mul DX.int (DX.var (i := 1) rfl))) DX.int) (DL.cons DX.int DL.nil))) (hl := fun _ => (by decide : 3 ≤ sizeLine))) (OwnAll.all (by exact trivial)) (.fz (.fz .nil)) ⟨rfl, fun _ => HEq.rfl, fun _ => rfl⟩
    ) (by exact fun _ => (hide_eq _).symm) (by exact fun _ h => h)
theorem m_law_draw_ok (T : Tx K mg) : FnG P w K mg base CX0 1 T.a32 T.d32 ["_law_source_here", "_law_count"] (SpOf (m_law_draw_fm K) m_law_draw_p m_law_draw) := by
  refine def_ok T.F32 sc32 rfl (by decide) fun cdv A outer s H E hr => ?_
  exact def_fin (Δ := ([.ow (oList (tInt K)) (fun (s : m_law_draw_S) => s.1), .fz (tInt K) (fun (s : m_law_draw_S) => s.2.1), .dead] : Ctx K m_law_draw_S)) (p := m_law_draw_p) (fv := m_law_draw) (
    DR.if1 (h := fun (s : m_law_draw_S) => (decide ((0 : Int) < (ixI (0 : Int) s.1 (0 : Int))))) (Δ1 := ([.ow (oList (tInt K)) (fun (s : m_law_draw_S) => s.1), .fz (tInt K) (fun (s : m_law_draw_S) => s.2.1), .dead] : Ctx K m_law_draw_S)) (DT.conv (DT.borrowE 0 rfl (DT.gt (DX.ix (ll_list (τ := (tInt K))) (0 : Int) (DX.var (i := 0) rfl) DX.int) DX.int) (by show 0 ∉ ([] : List Nat); decide) (by exact trivial) (by exact trivial)) rfl rfl (by exact rfl)) (by exact trivial) (
      DR.cons (Δ1 := ([.ow (oList (tInt K)) (fun (s : m_law_draw_S) => s.1), .fz (tInt K) (fun (s : m_law_draw_S) => s.2.1), .fz (tInt K) (fun (s : m_law_draw_S) => (m_law_draw_v_digit_1 s))] : Ctx K m_law_draw_S)) (DS.conv (DS.asg (DX.borrowE 0 rfl (DX.mod (DX.ix (ll_list (τ := (tInt K))) (0 : Int) (DX.var (i := 0) rfl) DX.int) (DX.var (i := 1) rfl)) lf_int (by show 0 ∉ ([] : List Nat); decide) (by exact trivial) (by exact trivial)) (DG.name (i := 2) sc32.nd rfl (.inl rfl)) (by exact trivial) (by show ∀ j ∈ ([2] : List Nat), j ∉ ([0] : List Nat); decide)) rfl (by exact rfl)) <|
      DR.cons (Δ1 := ([.ow (oList (tInt K)) (fun (s : m_law_draw_S) => (m_law_draw_v_source_here_2 s)), .fz (tInt K) (fun (s : m_law_draw_S) => s.2.1), .fz (tInt K) (fun (s : m_law_draw_S) => (m_law_draw_v_digit_1 s))] : Ctx K m_law_draw_S)) (DS.conv (DS.store (DX.borrowE 0 rfl (DX.fdiv (DX.ix (ll_list (τ := (tInt K))) (0 : Int) (DX.var (i := 0) rfl) DX.int) (DX.var (i := 1) rfl)) lf_int (by show 0 ∉ ([] : List Nat); decide) (by exact trivial) (by exact trivial)) (DX.pu DX.int rfl rfl) (by exact trivial) (i := 0) rfl) rfl (by exact rfl)) <|
      DR.ret (f := fun (s : m_law_draw_S) => ((m_law_draw_v_source_here_2 s), (m_law_draw_v_digit_1 s))) (DX.var (i := 2) rfl) (OwnAll.all (by exact trivial)) (.mu rfl (.fz .nil)) ⟨rfl, fun _ => HEq.rfl, fun _ => rfl⟩
    ) (
      DR.cons (Δ1 := ([.ow (oList (tInt K)) (fun (s : m_law_draw_S) => (m_law_draw_v_source_here_3 s)), .fz (tInt K) (fun (s : m_law_draw_S) => s.2.1), .dead] : Ctx K m_law_draw_S)) (DS.conv (DS.store (DX.borrowE 0 rfl (DX.add (DX.ix (ll_list (τ := (tInt K))) (0 : Int) (DX.var (i := 0) rfl) DX.int) DX.int) lf_int (by show 0 ∉ ([] : List Nat); decide) (by exact trivial) (by exact trivial)) (DX.pu DX.int rfl rfl) (by exact trivial) (i := 0) rfl) rfl (by exact rfl)) <|
      DR.cons (Δ1 := ([.ow (oList (tInt K)) (fun (s : m_law_draw_S) => (m_law_draw_v_source_here_4 s)), .fz (tInt K) (fun (s : m_law_draw_S) => s.2.1), .dead] : Ctx K m_law_draw_S)) (DS.conv (DS.store (DX.borrowE 0 rfl (DX.mod (DX.add (DX.add (DX.pow (DX.ix (ll_list (τ := (tInt K))) (0 : Int) (DX.var (i := 0) rfl) DX.int) DX.int) (DX.mul DX.int (DX.ix (ll_list (τ := (tInt K))) (0 : Int) (DX.var (i := 0) rfl) DX.int))) DX.int) (DX.add (DX.pow DX.int DX.int) DX.int)) lf_int (by show 0 ∉ ([] : List Nat); decide) (by exact trivial) (by exact trivial)) (DX.pu DX.int rfl rfl) (by exact trivial) (i := 0) rfl) rfl (by exact rfl)) <|
      DR.ret (f := fun (s : m_law_draw_S) => ((m_law_draw_v_source_here_4 s), (((ixI (0 : Int) (m_law_draw_v_source_here_4 s) (1 : Int)) / ((10 : Int) ^ ((8 : Int)).toNat)) % s.2.1))) (DX.borrowE 0 rfl (DX.mod (DX.fdiv (DX.ix (ll_list (τ := (tInt K))) (0 : Int) (DX.var (i := 0) rfl) DX.int) (DX.pow DX.int DX.int)) (DX.var (i := 1) rfl)) lf_int (by show 0 ∉ ([] : List Nat); decide) (by exact trivial) (by exact trivial)) (OwnAll.all (by exact trivial)) (.mu rfl (.fz .nil)) ⟨rfl, fun _ => HEq.rfl, fun _ => rfl⟩
    )
    ) (by exact fun _ => (hide_eq _).symm) (by exact fun _ h => h)
theorem m_law_size_ok (T : Tx K mg) : FnG P w K mg base CX0 2 T.a34 T.d34 ["_law_source_here", "_law_script"] (SpOf (m_law_size_fm K) m_law_size_p m_law_size) := by
  refine def_ok T.F34 sc34 rfl (by decide) fun cdv A outer s H E hr => ?_
  exact def_fin (Δ := ([.ow (oList (tInt K)) (fun (s : m_law_size_S) => s.1), .fz (tScr K) (fun (s : m_law_size_S) => s.2.1), .dead] : Ctx K m_law_size_S)) (p := m_law_size_p) (fv := m_law_size) (
    DR.cons (Δ1 := ([.ow (oList (tInt K)) (fun (s : m_law_size_S) => (m_law_size_c3 s).1), .fz (tScr K) (fun (s : m_law_size_S) => s.2.1), .fz (tList (tInt K)) (fun (s : m_law_size_S) => (m_law_size_v_some_4 s))] : Ctx K m_law_size_S)) (DS.conv (DS.asg (DX.ofL (DO.lst (τ := (tInt K)) (DL.cons (DX.add DX.int (DX.ofC (fm := m_law_draw_fm K) (τ := (tInt K)) (DC.call ((m_law_draw_ok T).mono (by decide)) hr T.g32 T.F32.kp T.b32 (DA.mu (j := 0) rfl (DA.cons DX.int DA.nil)) (.mu rfl (.fz .nil)) (.mu (.fz .nil)) nd1 (by exact ⟨⟨_, _, rfl⟩, trivial⟩)) rfl (fun _ => HEq.rfl))) (DL.cons (DX.add DX.int (DX.ofC (fm := m_law_draw_fm K) (τ := (tInt K)) (DC.call ((m_law_draw_ok T).mono (by decide)) hr T.g32 T.F32.kp T.b32 (DA.mu (j := 0) rfl (DA.cons DX.int DA.nil)) (.mu rfl (.fz .nil)) (.mu (.fz .nil)) nd1 (by exact ⟨⟨_, _, rfl⟩, trivial⟩)) rfl (fun _ => HEq.rfl))) (DL.cons (DX.add DX.int (DX.ofC (fm := m_law_draw_fm K) (τ := (tInt K)) (DC.call ((m_law_draw_ok T).mono (by decide)) hr T.g32 T.F32.kp T.b32 (DA.mu (j := 0) rfl (DA.cons DX.int DA.nil)) (.mu rfl (.fz .nil)) (.mu (.fz .nil)) nd1 (by exact ⟨⟨_, _, rfl⟩, trivial⟩)) rfl (fun _ => HEq.rfl))) DL.nil))) (hl := fun _ => (by decide : 3 ≤ sizeLine)))) (DG.name (i := 2) sc34.nd rfl (.inl rfl)) (by exact ⟨⟨_, _, rfl⟩, ⟨⟨_, _, rfl⟩, ⟨⟨_, _, rfl⟩, trivial⟩⟩⟩) (by show ∀ j ∈ ([2] : List Nat), j ∉ ([0] : List Nat); decide)) rfl (by exact rfl)) <|
    DR.cons (Δ1 := ([.ow (oList (tInt K)) (fun (s : m_law_size_S) => (m_law_size_c6 s).1), .fz (tScr K) (fun (s : m_law_size_S) => s.2.1), .fz (tList (tInt K)) (fun (s : m_law_size_S) => (m_law_size_v_some_7 s))] : Ctx K m_law_size_S)) (DS.conv (DS.asg (DX.ofL (DO.cat ll_list ll_list (DX.var (i := 2) rfl) (DX.ofL (DO.lst (τ := (tInt K)) (DL.cons (DX.add (DX.pow DX.int DX.int) (DX.ofC (fm := m_law_draw_fm K) (τ := (tInt K)) (DC.call ((m_law_draw_ok T).mono (by decide)) hr T.g32 T.F32.kp T.b32 (DA.mu (j := 0) rfl (DA.cons DX.int DA.nil)) (.mu rfl (.fz .nil)) (.mu (.fz .nil)) nd1 (by exact ⟨⟨_, _, rfl⟩, trivial⟩)) rfl (fun _ => HEq.rfl))) (DL.cons (DX.sub (DX.pow DX.int DX.int) (DX.ofC (fm := m_law_draw_fm K) (τ := (tInt K)) (DC.call ((m_law_draw_ok T).mono (by decide)) hr T.g32 T.F32.kp T.b32 (DA.mu (j := 0) rfl (DA.cons DX.int DA.nil)) (.mu rfl (.fz .nil)) (.mu (.fz .nil)) nd1 (by exact ⟨⟨_, _, rfl⟩, trivial⟩)) rfl (fun _ => HEq.rfl))) DL.nil)) (hl := fun _ => (by decide : 2 ≤ sizeLine)))))) (DG.name (i := 2) sc34.nd rfl (.inl rfl)) (by exact ⟨⟨_, _, rfl⟩, ⟨⟨_, _, rfl⟩, trivial⟩⟩) (by show ∀ j ∈ ([2] : List Nat), j ∉ ([0] : List Nat); decide)) rfl (by exact rfl)) <|
    DR.ret (f := fun (s : m_law_size_S) => ((if (((dfList dfInt)).eq s.2.1 ([] : List Int)) = true then (m_law_size_c6 s).1 else (m_law_size_c8 s).1), (if (((dfList dfInt)).eq s.2.1 ([] : List Int)) = true then (5 : Int) else (ixI (0 : Int) (m_law_size_v_some_7 s) (m_law_size_c8 s).2)))) (DX.iteE 0 (ω := (oList (tInt K))) (f1 := fun (s : m_law_size_S) => (m_law_size_c6 s).1) (f2 := fun (s : m_law_size_S) => (m_law_size_c8 s).1) (DT.eq hr.rm dat_scr (DX.var (i := 1) rfl) (DX.scrL (DX.ofL (DO.lst (τ := (tInt K)) DL.nil (hl := fun _ => (by decide : 0 ≤ sizeLine))))) (hn := n64 (m := 2) rfl)) rfl DX.int (DX.ix (ll_list (τ := (tInt K))) (0 : Int) (DX.var (i := 2) rfl) (DX.ofC (fm := m_law_draw_fm K) (τ := (tInt K)) (DC.call ((m_law_draw_ok T).mono (by decide)) hr T.g32 T.F32.kp T.b32 (DA.mu (j := 0) rfl (DA.cons DX.int DA.nil)) (.mu rfl (.fz .nil)) (.mu (.fz .nil)) nd1 (by exact ⟨⟨_, _, rfl⟩, trivial⟩)) rfl (fun _ => HEq.rfl))) rfl rfl (fun k h => by have h2 : k ∈ ([] : List Nat) := h; simpa using h2) (fun k h => by have h2 : k ∈ ([0] : List Nat) := h; simpa using h2)) (OwnAll.all (by exact ⟨⟨_, _, rfl⟩, trivial⟩)) (.mu rfl (.fz .nil)) ⟨rfl, fun _ => HEq.rfl, fun _ => rfl⟩
    ) (by exact fun _ => (hide_eq _).symm) (by exact fun _ h => h)
theorem m_law_marked_ok (T : Tx K mg) : FnG P w K mg base CX0 2 T.a36 T.d36 ["_law_source_here", "_law_size_here", "_law_most"] (SpOf (m_law_marked_fm K) m_law_marked_p m_law_marked) := by
  refine def_ok T.F36 sc36 rfl (by decide) fun cdv A outer s H E hr => ?_
  exact def_fin (Δ := ([.ow (oList (tInt K)) (fun (s : m_law_marked_S) => s.1), .fz (tInt K) (fun (s : m_law_marked_S) => s.2.1), .fz (tInt K) (fun (s : m_law_marked_S) => s.2.2.1), .dead, .dead, .dead, .dead] : Ctx K m_law_marked_S)) (p := m_law_marked_p) (fv := m_law_marked) (
    DR.cons (Δ1 := ([.ow (oList (tInt K)) (fun (s : m_law_marked_S) => (m_law_marked_c1 s).1), .fz (tInt K) (fun (s : m_law_marked_S) => s.2.1), .fz (tInt K) (fun (s : m_law_marked_S) => s.2.2.1), .ow (oList (tTp [(tInt K), (tInt K)])) (fun (s : m_law_marked_S) => (m_law_marked_v_found_2 s)), .fz (tInt K) (fun (s : m_law_marked_S) => (m_law_marked_c1 s).2), .dead, .dead] : Ctx K m_law_marked_S)) (DS.conv (DS.par (DV.ow (DO.lst (τ := (tTp [(tInt K), (tInt K)])) DL.nil (hl := fun _ => (by decide : 0 ≤ sizeLine)))) (DV.fz (DX.ofC (fm := m_law_draw_fm K) (τ := (tInt K)) (DC.call ((m_law_draw_ok T).mono (by decide)) hr T.g32 T.F32.kp T.b32 (DA.mu (j := 0) rfl (DA.cons (DX.min2 T.n_min (DX.var (i := 1) rfl) DX.int) DA.nil)) (.mu rfl (.fz .nil)) (.mu (.fz .nil)) nd1 (by exact ⟨⟨_, _, rfl⟩, trivial⟩)) rfl (fun _ => HEq.rfl))) (by exact ⟨⟨_, _, rfl⟩, trivial⟩) sc36.nd (i := 3) (j := 4) rfl rfl (by decide) rfl rfl (by show 3 ∉ ([0] : List Nat); decide) (by show 4 ∉ ([0] : List Nat); decide)) rfl (by exact rfl)) <|
    DR.consM (Δ1 := ([.ow (oList (tInt K)) (fun (s : m_law_marked_S) => (m_law_marked_L4 s).1), .fz (tInt K) (fun (s : m_law_marked_S) => s.2.1), .fz (tInt K) (fun (s : m_law_marked_S) => s.2.2.1), .ow (oList (tTp [(tInt K), (tInt K)])) (fun (s : m_law_marked_S) => (m_law_marked_L4 s).2.1), .fz (tInt K) (fun (s : m_law_marked_S) => (m_law_marked_L4 s).2.2), .dead, .dead] : Ctx K m_law_marked_S)) (r := fun s => m_law_marked_L4R s) (DSm.conv (DSm.forH (r := fun s => m_law_marked_L4r s) (S := m_law_marked_S) (M := m_law_marked_L4M) (τ := (tInt K)) (init := fun s => m_law_marked_L4i s) (step := fun s => m_law_marked_L4s s) (fx := fun s => m_law_marked_L4x s) (Δ1 := ([.ow (oList (tInt K)) (fun (s : m_law_marked_S) => (m_law_marked_c3 s).1), .fz (tInt K) (fun (s : m_law_marked_S) => s.2.1), .fz (tInt K) (fun (s : m_law_marked_S) => s.2.2.1), .ow (oList (tTp [(tInt K), (tInt K)])) (fun (s : m_law_marked_S) => (m_law_marked_v_found_2 s)), .fz (tInt K) (fun (s : m_law_marked_S) => (m_law_marked_c1 s).2), .dead, .dead] : Ctx K m_law_marked_S)) (Δl := ([.ow (oList (tInt K)) (fun (s : (m_law_marked_S × m_law_marked_L4M)) => s.2.1), .fz (tInt K) (fun (s : (m_law_marked_S × m_law_marked_L4M)) => s.1.2.1), .fz (tInt K) (fun (s : (m_law_marked_S × m_law_marked_L4M)) => s.1.2.2.1), .ow (oList (tTp [(tInt K), (tInt K)])) (fun (s : (m_law_marked_S × m_law_marked_L4M)) => s.2.2.1), .fz (tInt K) (fun (s : (m_law_marked_S × m_law_marked_L4M)) => s.2.2.2), .dead, .dead] : Ctx K (m_law_marked_S × m_law_marked_L4M))) (Δb := ([.ow (oList (tInt K)) (fun (s : m_law_marked_L4T) => s.1.2.1), .fz (tInt K) (fun (s : m_law_marked_L4T) => s.1.1.2.1), .fz (tInt K) (fun (s : m_law_marked_L4T) => s.1.1.2.2.1), .ow (oList (tTp [(tInt K), (tInt K)])) (fun (s : m_law_marked_L4T) => s.1.2.2.1), .fz (tInt K) (fun (s : m_law_marked_L4T) => s.1.2.2.2), .fz (tInt K) (fun (s : m_law_marked_L4T) => s.2), .dead] : Ctx K m_law_marked_L4T)) (Δe := ([.ow (oList (tInt K)) (fun (s : m_law_marked_L4T) => (m_law_marked_c12 s).1), .fz (tInt K) (fun (s : m_law_marked_L4T) => s.1.1.2.1), .fz (tInt K) (fun (s : m_law_marked_L4T) => s.1.1.2.2.1), .ow (oList (tTp [(tInt K), (tInt K)])) (fun (s : m_law_marked_L4T) => (m_law_marked_v_found_10 s)), .fz (tInt K) (fun (s : m_law_marked_L4T) => (m_law_marked_v_at_13 s)), .fz (tInt K) (fun (s : m_law_marked_L4T) => s.2), .fz (tInt K) (fun (s : m_law_marked_L4T) => (m_law_marked_v_last_9 s))] : Ctx K m_law_marked_L4T)) (DI.conv (DI.range1 T.n_range (DX.ofC (fm := m_law_draw_fm K) (τ := (tInt K)) (DC.call ((m_law_draw_ok T).mono (by decide)) hr T.g32 T.F32.kp T.b32 (DA.mu (j := 0) rfl (DA.cons (DX.add (DX.var (i := 2) rfl) DX.int) DA.nil)) (.mu rfl (.fz .nil)) (.mu (.fz .nil)) nd1 (by exact ⟨⟨_, _, rfl⟩, trivial⟩)) rfl (fun _ => HEq.rfl))) rfl rfl (by exact rfl)) (by exact ⟨⟨_, _, rfl⟩, trivial⟩) (.ow (ω := (oList (tInt K))) (fun (m : m_law_marked_L4M) => m.1) (fun _ => by rfl) (.keep (.keep (.ow (ω := (oList (tTp [(tInt K), (tInt K)]))) (fun (m : m_law_marked_L4M) => m.2.1) (fun _ => by rfl) (.fz (τ := (tInt K)) (fun (m : m_law_marked_L4M) => m.2.2) (fun _ => by rfl) (.dead (.dead .nil))))))) (DG.name (i := 5) sc36.nd rfl (.inl rfl)) (by show ∀ j ∈ ([5] : List Nat), j ∉ ([0] : List Nat); decide) (
      DM.consM (Δ1 := ([.ow (oList (tInt K)) (fun (s : m_law_marked_L4T) => s.1.2.1), .fz (tInt K) (fun (s : m_law_marked_L4T) => s.1.1.2.1), .fz (tInt K) (fun (s : m_law_marked_L4T) => s.1.1.2.2.1), .ow (oList (tTp [(tInt K), (tInt K)])) (fun (s : m_law_marked_L4T) => s.1.2.2.1), .fz (tInt K) (fun (s : m_law_marked_L4T) => s.1.2.2.2), .fz (tInt K) (fun (s : m_law_marked_L4T) => s.2), .dead] : Ctx K m_law_marked_L4T)) (r := fun (s : m_law_marked_L4T) => (if (m_law_marked_h5 s) = true then (some (s.1.2.1, s.1.2.2.1)) else none)) (DSm.conv (DSm.ite (h := fun (s : m_law_marked_L4T) => (m_law_marked_h5 s)) (Δ1 := ([.ow (oList (tInt K)) (fun (s : m_law_marked_L4T) => s.1.2.1), .fz (tInt K) (fun (s : m_law_marked_L4T) => s.1.1.2.1), .fz (tInt K) (fun (s : m_law_marked_L4T) => s.1.1.2.2.1), .ow (oList (tTp [(tInt K), (tInt K)])) (fun (s : m_law_marked_L4T) => s.1.2.2.1), .fz (tInt K) (fun (s : m_law_marked_L4T) => s.1.2.2.2), .fz (tInt K) (fun (s : m_law_marked_L4T) => s.2), .dead] : Ctx K m_law_marked_L4T)) (Δa := ([.ow (oList (tInt K)) (fun (s : m_law_marked_L4T) => s.1.2.1), .fz (tInt K) (fun (s : m_law_marked_L4T) => s.1.1.2.1), .fz (tInt K) (fun (s : m_law_marked_L4T) => s.1.1.2.2.1), .ow (oList (tTp [(tInt K), (tInt K)])) (fun (s : m_law_marked_L4T) => s.1.2.2.1), .fz (tInt K) (fun (s : m_law_marked_L4T) => s.1.2.2.2), .fz (tInt K) (fun (s : m_law_marked_L4T) => s.2), .dead] : Ctx K m_law_marked_L4T)) (Δb := ([.ow (oList (tInt K)) (fun (s : m_law_marked_L4T) => s.1.2.1), .fz (tInt K) (fun (s : m_law_marked_L4T) => s.1.1.2.1), .fz (tInt K) (fun (s : m_law_marked_L4T) => s.1.1.2.2.1), .ow (oList (tTp [(tInt K), (tInt K)])) (fun (s : m_law_marked_L4T) => s.1.2.2.1), .fz (tInt K) (fun (s : m_law_marked_L4T) => s.1.2.2.2), .fz (tInt K) (fun (s : m_law_marked_L4T) => s.2), .dead] : Ctx K m_law_marked_L4T)) (DT.conv (DT.ge (DX.var (i := 4) rfl) (DX.var (i := 1) rfl)) rfl rfl (by exact rfl)) (by exact trivial) (
        DM.ofR <|
        DR.retN (f := fun (s : m_law_marked_L4T) => (s.1.2.1, s.1.2.2.1)) (i := 3) rfl (by show 3 ∉ ([0] : List Nat); decide) (.mu rfl (.fz (.fz .nil))) ⟨rfl, fun _ => HEq.rfl, fun _ => rfl⟩
      ) (
        DM.ofN <|
        DN.fin rfl
      ) (.same (.same (.same (.same (.same (.same (.same .nil)))))))) rfl rfl (by exact rfl)) <|
      DM.ofN <|
      DN.cons (Δ1 := ([.ow (oList (tInt K)) (fun (s : m_law_marked_L4T) => (m_law_marked_c8 s).1), .fz (tInt K) (fun (s : m_law_marked_L4T) => s.1.1.2.1), .fz (tInt K) (fun (s : m_law_marked_L4T) => s.1.1.2.2.1), .ow (oList (tTp [(tInt K), (tInt K)])) (fun (s : m_law_marked_L4T) => s.1.2.2.1), .fz (tInt K) (fun (s : m_law_marked_L4T) => s.1.2.2.2), .fz (tInt K) (fun (s : m_law_marked_L4T) => s.2), .fz (tInt K) (fun (s : m_law_marked_L4T) => (m_law_marked_v_last_9 s))] : Ctx K m_law_marked_L4T)) (DS.conv (DS.asg (DX.min2 T.n_min (DX.sub (DX.var (i := 1) rfl) DX.int) (DX.add (DX.var (i := 4) rfl) (DX.ix (ll_list (τ := (tInt K))) (0 : Int) (DX.ofL (DO.lst (τ := (tInt K)) (DL.cons DX.int (DL.cons DX.int (DL.cons DX.int (DL.cons (DX.ofC (fm := m_law_draw_fm K) (τ := (tInt K)) (DC.call ((m_law_draw_ok T).mono (by decide)) hr T.g32 T.F32.kp T.b32 (DA.mu (j := 0) rfl (DA.cons DX.int DA.nil)) (.mu rfl (.fz .nil)) (.mu (.fz .nil)) nd1 (by exact ⟨⟨_, _, rfl⟩, trivial⟩)) rfl (fun _ => HEq.rfl)) (DL.cons (DX.ofC (fm := m_law_draw_fm K) (τ := (tInt K)) (DC.call ((m_law_draw_ok T).mono (by decide)) hr T.g32 T.F32.kp T.b32 (DA.mu (j := 0) rfl (DA.cons (DX.var (i := 1) rfl) DA.nil)) (.mu rfl (.fz .nil)) (.mu (.fz .nil)) nd1 (by exact ⟨⟨_, _, rfl⟩, trivial⟩)) rfl (fun _ => HEq.rfl)) DL.nil))))) (hl := fun _ => (by decide : 5 ≤ sizeLine)))) (DX.ofC (fm := m_law_draw_fm K) (τ := (tInt K)) (DC.call ((m_law_draw_ok T).mono (by decide)) hr T.g32 T.F32.kp T.b32 (DA.mu (j := 0) rfl (DA.cons DX.int DA.nil)) (.mu rfl (.fz .nil)) (.mu (.fz .nil)) nd1 (by exact ⟨⟨_, _, rfl⟩, trivial⟩)) rfl (fun _ => HEq.rfl))))) (DG.name (i := 6) sc36.nd rfl (.inl rfl)) (by exact ⟨⟨_, _, rfl⟩, ⟨⟨_, _, rfl⟩, ⟨⟨_, _, rfl⟩, trivial⟩⟩⟩) (by show ∀ j ∈ ([6] : List Nat), j ∉ ([0] : List Nat); decide)) rfl (by exact rfl)) <|
      DN.cons (Δ1 := ([.ow (oList (tInt K)) (fun (s : m_law_marked_L4T) => (m_law_marked_c8 s).1), .fz (tInt K) (fun (s : m_law_marked_L4T) => s.1.1.2.1), .fz (tInt K) (fun (s : m_law_marked_L4T) => s.1.1.2.2.1), .ow (oList (tTp [(tInt K), (tInt K)])) (fun (s : m_law_marked_L4T) => (m_law_marked_v_found_10 s)), .fz (tInt K) (fun (s : m_law_marked_L4T) => s.1.2.2.2), .fz (tInt K) (fun (s : m_law_marked_L4T) => s.2), .fz (tInt K) (fun (s : m_law_marked_L4T) => (m_law_marked_v_last_9 s))] : Ctx K m_law_marked_L4T)) (DS.conv (DS.expr (DX.append (i := 3) (DX.tup (DTs.cons (DX.var (i := 4) rfl) (DTs.one (DX.var (i := 6) rfl))) (hl := (by decide : 2 ≤ sizeLine))) rfl rfl) (by exact ⟨⟨_, _, rfl⟩, trivial⟩)) rfl (by exact rfl)) <|
      DN.cons (Δ1 := ([.ow (oList (tInt K)) (fun (s : m_law_marked_L4T) => (m_law_marked_c12 s).1), .fz (tInt K) (fun (s : m_law_marked_L4T) => s.1.1.2.1), .fz (tInt K) (fun (s : m_law_marked_L4T) => s.1.1.2.2.1), .ow (oList (tTp [(tInt K), (tInt K)])) (fun (s : m_law_marked_L4T) => (m_law_marked_v_found_10 s)), .fz (tInt K) (fun (s : m_law_marked_L4T) => (m_law_marked_v_at_13 s)), .fz (tInt K) (fun (s : m_law_marked_L4T) => s.2), .fz (tInt K) (fun (s : m_law_marked_L4T) => (m_law_marked_v_last_9 s))] : Ctx K m_law_marked_L4T)) (DS.conv (DS.asg (DX.add (DX.add (DX.var (i := 6) rfl) DX.int) (DX.ix (ll_list (τ := (tInt K))) (0 : Int) (DX.ofL (DO.lst (τ := (tInt K)) (DL.cons DX.int (DL.cons DX.int (DL.cons DX.int (DL.cons (DX.ofC (fm := m_law_draw_fm K) (τ := (tInt K)) (DC.call ((m_law_draw_ok T).mono (by decide)) hr T.g32 T.F32.kp T.b32 (DA.mu (j := 0) rfl (DA.cons DX.int DA.nil)) (.mu rfl (.fz .nil)) (.mu (.fz .nil)) nd1 (by exact ⟨⟨_, _, rfl⟩, trivial⟩)) rfl (fun _ => HEq.rfl)) DL.nil)))) (hl := fun _ => (by decide : 4 ≤ sizeLine)))) (DX.ofC (fm := m_law_draw_fm K) (τ := (tInt K)) (DC.call ((m_law_draw_ok T).mono (by decide)) hr T.g32 T.F32.kp T.b32 (DA.mu (j := 0) rfl (DA.cons DX.int DA.nil)) (.mu rfl (.fz .nil)) (.mu (.fz .nil)) nd1 (by exact ⟨⟨_, _, rfl⟩, trivial⟩)) rfl (fun _ => HEq.rfl)))) (DG.name (i := 4) sc36.nd rfl (.inl rfl)) (by exact ⟨⟨_, _, rfl⟩, ⟨⟨_, _, rfl⟩, trivial⟩⟩) (by show ∀ j ∈ ([4] : List Nat), j ∉ ([0] : List Nat); decide)) rfl (by exact rfl)) <|
      DN.fin rfl
    ) (.ow (ω := (oList (tInt K))) (pr := fun (m : m_law_marked_L4M) => m.1) (fun _ => by rfl) (.keep (sl := .fz (tInt K) (fun (s : m_law_marked_S) => s.2.1)) (.keep (sl := .fz (tInt K) (fun (s : m_law_marked_S) => s.2.2.1)) (.ow (ω := (oList (tTp [(tInt K), (tInt K)]))) (pr := fun (m : m_law_marked_L4M) => m.2.1) (fun _ => by rfl) (.fz (τ := (tInt K)) (pr := fun (m : m_law_marked_L4M) => m.2.2) (fun _ => by rfl) (.dead (.dead .nil)))))))) rfl rfl (by exact rfl)) <|
    DR.retN (f := fun (s : m_law_marked_S) => ((m_law_marked_L4 s).1, (m_law_marked_L4 s).2.1)) (i := 3) rfl (by show 3 ∉ ([0] : List Nat); decide) (.mu rfl (.fz (.fz .nil))) ⟨rfl, fun _ => HEq.rfl, fun _ => rfl⟩
    ) (by exact fun _ => (hide_eq _).symm) (by exact fun _ h => h)
theorem m_law_start_ok (T : Tx K mg) : FnG P w K mg base CX0 3 T.a38 T.d38 ["_law_source_here", "_law_script", "_law_most"] (SpOf (m_law_start_fm K) m_law_start_p m_law_start) := by
  refine def_ok T.F38 sc38 rfl (by decide) fun cdv A outer s H E hr => ?_
  exact def_fin (Δ := ([.ow (oList (tInt K)) (fun (s : m_law_start_S) => s.1), .fz (tScr K) (fun (s : m_law_start_S) => s.2.1), .fz (tInt K) (fun (s : m_law_start_S) => s.2.2.1), .dead, .dead, .dead] : Ctx K m_law_start_S)) (p := m_law_start_p) (fv := m_law_start) (
    DR.cons (Δ1 := ([.ow (oList (tInt K)) (fun (s : m_law_start_S) => (m_law_start_c1 s).1), .fz (tScr K) (fun (s : m_law_start_S) => s.2.1), .fz (tInt K) (fun (s : m_law_start_S) => s.2.2.1), .fz (tInt K) (fun (s : m_law_start_S) => (m_law_start_c1 s).2), .dead, .dead] : Ctx K m_law_start_S)) (DS.conv (DS.asg (DX.ofC (fm := m_law_size_fm K) (τ := (tInt K)) (DC.call ((m_law_size_ok T).mono (by decide)) hr T.g34 T.F34.kp T.b34 (DA.mu (j := 0) rfl (DA.cons (DX.var (i := 1) rfl) DA.nil)) (.mu rfl (.fz .nil)) (.mu (.fz .nil)) nd1 (by exact ⟨⟨_, _, rfl⟩, trivial⟩)) rfl (fun _ => HEq.rfl)) (DG.name (i := 3) sc38.nd rfl (.inl rfl)) (by exact ⟨⟨_, _, rfl⟩, trivial⟩) (by show ∀ j ∈ ([3] : List Nat), j ∉ ([0] : List Nat); decide)) rfl (by exact rfl)) <|
    DR.cons (Δ1 := ([.ow (oList (tInt K)) (fun (s : m_law_start_S) => (m_law_start_c2 s).1), .fz (tScr K) (fun (s : m_law_start_S) => s.2.1), .fz (tInt K) (fun (s : m_law_start_S) => s.2.2.1), .fz (tInt K) (fun (s : m_law_start_S) => (m_law_start_c1 s).2), .fz (tList (tTp [(tInt K), (tInt K)])) (fun (s : m_law_start_S) => (m_law_start_c2 s).2), .dead] : Ctx K m_law_start_S)) (DS.conv (DS.asg (DX.ofL (DO.ofC (fm := m_law_marked_fm K) (ω := (oList (tTp [(tInt K), (tInt K)]))) (DC.call ((m_law_marked_ok T).mono (by decide)) hr T.g36 T.F36.kp T.b36 (DA.mu (j := 0) rfl (DA.cons (DX.var (i := 3) rfl) (DA.cons (DX.ite (DT.eq hr.rm dat_scr (DX.var (i := 1) rfl) (DX.scrL (DX.ofL (DO.lst (τ := (tInt K)) DL.nil (hl := fun _ => (by decide : 0 ≤ sizeLine))))) (hn := n64 (m := 2) rfl)) (DX.pu DX.int rfl rfl) (DX.pu (DX.var (i := 2) rfl) rfl rfl)) DA.nil))) (.mu rfl (.fz (.fz .nil))) (.mu (.fz (.fz .nil))) nd1 (by exact ⟨⟨_, _, rfl⟩, trivial⟩)) rfl (fun _ => HEq.rfl))) (DG.name (i := 4) sc38.nd rfl (.inl rfl)) (by exact ⟨⟨_, _, rfl⟩, trivial⟩) (by show ∀ j ∈ ([4] : List Nat), j ∉ ([0] : List Nat); decide)) rfl (by unfold m_law_start_c2; rfl)) <|
    DR.cons (Δ1 := ([.ow (oList (tInt K)) (fun (s : m_law_start_S) => (m_law_start_v_source_here_5 s)), .fz (tScr K) (fun (s : m_law_start_S) => s.2.1), .fz (tInt K) (fun (s : m_law_start_S) => s.2.2.1), .fz (tInt K) (fun (s : m_law_start_S) => (m_law_start_c1 s).2), .fz (tList (tTp [(tInt K), (tInt K)])) (fun (s : m_law_start_S) => (m_law_start_c2 s).2), .fz (tOpt (tInt K)) (fun (s : m_law_start_S) => (m_law_start_v_anchor_6 s))] : Ctx K m_law_start_S)) (DS.conv (DS.asg (DX.iteE 0 (ω := (oList (tInt K))) (f1 := fun (s : m_law_start_S) => (m_law_start_c4 s).1) (f2 := fun (s : m_law_start_S) => (m_law_start_c3 s).1) (DT.eq hr.rm dat_int (DX.ofC (fm := m_law_draw_fm K) (τ := (tInt K)) (DC.call ((m_law_draw_ok T).mono (by decide)) hr T.g32 T.F32.kp T.b32 (DA.mu (j := 0) rfl (DA.cons DX.int DA.nil)) (.mu rfl (.fz .nil)) (.mu (.fz .nil)) nd1 (by exact ⟨⟨_, _, rfl⟩, trivial⟩)) rfl (fun _ => HEq.rfl)) DX.int (hn := n64 (m := 1) rfl)) rfl (DX.someO nv_int (DX.ofC (fm := m_law_draw_fm K) (τ := (tInt K)) (DC.call ((m_law_draw_ok T).mono (by decide)) hr T.g32 T.F32.kp T.b32 (DA.mu (j := 0) rfl (DA.cons (DX.var (i := 3) rfl) DA.nil)) (.mu rfl (.fz .nil)) (.mu (.fz .nil)) nd1 (by exact ⟨⟨_, _, rfl⟩, trivial⟩)) rfl (fun _ => HEq.rfl))) DX.nonO rfl rfl (fun k h => by have h2 : k ∈ ([0] : List Nat) := h; simpa using h2) (fun k h => by have h2 : k ∈ ([] : List Nat) := h; simpa using h2)) (DG.name (i := 5) sc38.nd rfl (.inl rfl)) (by exact ⟨⟨_, _, rfl⟩, ⟨⟨_, _, rfl⟩, trivial⟩⟩) (by show ∀ j ∈ ([5] : List Nat), j ∉ ([0] : List Nat); decide)) rfl (by exact rfl)) <|
    DR.ret (f := fun (s : m_law_start_S) => ((m_law_start_v_source_here_5 s), ((m_law_start_c1 s).2, (m_law_start_c2 s).2, (m_law_start_v_anchor_6 s)))) (DX.tup (DTs.cons (DX.var (i := 3) rfl) (DTs.cons (DX.var (i := 4) rfl) (DTs.one (DX.var (i := 5) rfl)))) (hl := (by decide : 3 ≤ sizeLine))) (OwnAll.all (by exact trivial)) (.mu rfl (.fz (.fz .nil))) ⟨rfl, fun _ => HEq.rfl, fun _ => rfl⟩
    ) (by exact fun _ => (hide_eq _).symm) (by exact fun _ h => h)
theorem m_law_item_ok (T : Tx K mg) : FnG P w K mg base CX0 2 T.a35 T.d35 ["_law_source_here", "_law_size_here", "_law_near"] (SpOf (m_law_item_fm K) m_law_item_p m_law_item) := by
  refine def_ok T.F35 sc35 rfl (by decide) fun cdv A outer s H E hr => ?_
  exact def_fin (Δ := ([.ow (oList (tInt K)) (fun (s : m_law_item_S) => s.1), .fz (tInt K) (fun (s : m_law_item_S) => s.2.1), .fz (tInt K) (fun (s : m_law_item_S) => s.2.2.1), .dead] : Ctx K m_law_item_S)) (p := m_law_item_p) (fv := m_law_item) (
    DR.cons (Δ1 := ([.ow (oList (tInt K)) (fun (s : m_law_item_S) => (m_law_item_c3 s).1), .fz (tInt K) (fun (s : m_law_item_S) => s.2.1), .fz (tInt K) (fun (s : m_law_item_S) => s.2.2.1), .ow (oList (tInt K)) (fun (s : m_law_item_S) => (m_law_item_v_some_4 s))] : Ctx K m_law_item_S)) (DS.conv (DS.setO (DO.lst (τ := (tInt K)) (DL.cons (DX.ofC (fm := m_law_draw_fm K) (τ := (tInt K)) (DC.call ((m_law_draw_ok T).mono (by decide)) hr T.g32 T.F32.kp T.b32 (DA.mu (j := 0) rfl (DA.cons (DX.var (i := 1) rfl) DA.nil)) (.mu rfl (.fz .nil)) (.mu (.fz .nil)) nd1 (by exact ⟨⟨_, _, rfl⟩, trivial⟩)) rfl (fun _ => HEq.rfl)) (DL.cons (DX.ofC (fm := m_law_draw_fm K) (τ := (tInt K)) (DC.call ((m_law_draw_ok T).mono (by decide)) hr T.g32 T.F32.kp T.b32 (DA.mu (j := 0) rfl (DA.cons (DX.min2 T.n_min (DX.var (i := 1) rfl) DX.int) DA.nil)) (.mu rfl (.fz .nil)) (.mu (.fz .nil)) nd1 (by exact ⟨⟨_, _, rfl⟩, trivial⟩)) rfl (fun _ => HEq.rfl)) (DL.cons (DX.sub (DX.sub (DX.var (i := 1) rfl) DX.int) (DX.ofC (fm := m_law_draw_fm K) (τ := (tInt K)) (DC.call ((m_law_draw_ok T).mono (by decide)) hr T.g32 T.F32.kp T.b32 (DA.mu (j := 0) rfl (DA.cons (DX.min2 T.n_min (DX.var (i := 1) rfl) DX.int) DA.nil)) (.mu rfl (.fz .nil)) (.mu (.fz .nil)) nd1 (by exact ⟨⟨_, _, rfl⟩, trivial⟩)) rfl (fun _ => HEq.rfl))) DL.nil))) (hl := fun _ => (by decide : 3 ≤ sizeLine))) (by exact ⟨⟨_, _, rfl⟩, ⟨⟨_, _, rfl⟩, ⟨⟨_, _, rfl⟩, trivial⟩⟩⟩) sc35.nd (i := 3) rfl (.inl rfl) (by show 3 ∉ ([0] : List Nat); decide)) rfl (by exact rfl)) <|
    DR.cons (Δ1 := ([.ow (oList (tInt K)) (fun (s : m_law_item_S) => (m_law_item_c5 s).1), .fz (tInt K) (fun (s : m_law_item_S) => s.2.1), .fz (tInt K) (fun (s : m_law_item_S) => s.2.2.1), .ow (oList (tInt K)) (fun (s : m_law_item_S) => (m_law_item_v_some_6 s))] : Ctx K m_law_item_S)) (DS.conv (DS.expr (DX.append (i := 3) (DX.min2 T.n_min (DX.sub (DX.var (i := 1) rfl) DX.int) (DX.max2 T.n_max DX.int (DX.sub (DX.add (DX.var (i := 2) rfl) (DX.ofC (fm := m_law_draw_fm K) (τ := (tInt K)) (DC.call ((m_law_draw_ok T).mono (by decide)) hr T.g32 T.F32.kp T.b32 (DA.mu (j := 0) rfl (DA.cons DX.int DA.nil)) (.mu rfl (.fz .nil)) (.mu (.fz .nil)) nd1 (by exact ⟨⟨_, _, rfl⟩, trivial⟩)) rfl (fun _ => HEq.rfl))) DX.int))) rfl rfl) (by exact ⟨⟨_, _, rfl⟩, ⟨⟨_, _, rfl⟩, trivial⟩⟩)) rfl (by exact rfl)) <|
    DR.ret (f := fun (s : m_law_item_S) => ((m_law_item_c7 s).1, (ixI (0 : Int) (m_law_item_v_some_6 s) (m_law_item_c7 s).2))) (DX.borrowE 3 rfl (DX.ix (ll_list (τ := (tInt K))) (0 : Int) (DX.var (i := 3) rfl) (DX.ofC (fm := m_law_draw_fm K) (τ := (tInt K)) (DC.call ((m_law_draw_ok T).mono (by decide)) hr T.g32 T.F32.kp T.b32 (DA.mu (j := 0) rfl (DA.cons DX.int DA.nil)) (.mu rfl (.fz .nil)) (.mu (.fz .nil)) nd1 (by exact ⟨⟨_, _, rfl⟩, trivial⟩)) rfl (fun _ => HEq.rfl))) lf_int (by show 3 ∉ ([0] : List Nat); decide) (by exact ⟨⟨_, _, rfl⟩, trivial⟩) (by exact ⟨⟨_, _, rfl, lfo_list lf_int⟩, trivial⟩)) (OwnAll.all (by exact ⟨⟨_, _, rfl⟩, trivial⟩)) (.mu rfl (.fz (.fz .nil))) ⟨rfl, fun _ => HEq.rfl, fun _ => rfl⟩
    ) (by exact fun _ => (hide_eq _).symm) (by exact fun _ h => h)
theorem m_law_pressed_ok (T : Tx K mg) : FnG P w K mg base CX0 3 T.a37 T.d37 ["_law_source_here", "_law_size_here", "_law_most", "_law_anchor"] (SpOf (m_law_pressed_fm K) m_law_pressed_p m_law_pressed) := by
  refine def_ok T.F37 sc37 rfl (by decide) fun cdv A outer s H E hr => ?_
  exact def_fin (Δ := ([.ow (oList (tInt K)) (fun (s : m_law_pressed_S) => s.1), .fz (tInt K) (fun (s : m_law_pressed_S) => s.2.1), .fz (tInt K) (fun (s : m_law_pressed_S) => s.2.2.1), .fz (tOpt (tInt K)) (fun (s : m_law_pressed_S) => s.2.2.2.1), .dead, .dead, .dead, .dead] : Ctx K m_law_pressed_S)) (p := m_law_pressed_p) (fv := m_law_pressed) (
    DR.cons (Δ1 := ([.ow (oList (tInt K)) (fun (s : m_law_pressed_S) => s.1), .fz (tInt K) (fun (s : m_law_pressed_S) => s.2.1), .fz (tInt K) (fun (s : m_law_pressed_S) => s.2.2.1), .fz (tOpt (tInt K)) (fun (s : m_law_pressed_S) => s.2.2.2.1), .ow (oList (tTp [(tStr K), (tInt K)])) (fun (s : m_law_pressed_S) => (m_law_pressed_v_found_1 s)), .fz (tInt K) (fun (s : m_law_pressed_S) => (m_law_pressed_v_near_2 s)), .dead, .dead] : Ctx K m_law_pressed_S)) (DS.conv (DS.par (DV.ow (DO.lst (τ := (tTp [(tStr K), (tInt K)])) DL.nil (hl := fun _ => (by decide : 0 ≤ sizeLine)))) (DV.fz (DX.ite (DT.isN (DX.var (i := 3) rfl)) (DX.pu DX.int rfl rfl) (DX.pu (DX.getO (τ := (tInt K)) (0 : Int) (DX.var (i := 3) rfl)) rfl rfl))) (by exact trivial) sc37.nd (i := 4) (j := 5) rfl rfl (by decide) rfl rfl (by show 4 ∉ ([0] : List Nat); decide) (by show 5 ∉ ([0] : List Nat); decide)) rfl (by exact rfl)) <|
    DR.cons (Δ1 := ([.ow (oList (tInt K)) (fun (s : m_law_pressed_S) => (m_law_pressed_L5 s).1), .fz (tInt K) (fun (s : m_law_pressed_S) => s.2.1), .fz (tInt K) (fun (s : m_law_pressed_S) => s.2.2.1), .fz (tOpt (tInt K)) (fun (s : m_law_pressed_S) => s.2.2.2.1), .ow (oList (tTp [(tStr K), (tInt K)])) (fun (s : m_law_pressed_S) => (m_law_pressed_L5 s).2.1), .fz (tInt K) (fun (s : m_law_pressed_S) => (m_law_pressed_L5 s).2.2), .dead, .dead] : Ctx K m_law_pressed_S)) (DS.conv (DS.forH (S := m_law_pressed_S) (M := m_law_pressed_L5M) (τ := (tInt K)) (init := fun s => m_law_pressed_L5i s) (step := fun s => m_law_pressed_L5s s) (fx := fun s => m_law_pressed_L5x s) (Δ1 := ([.ow (oList (tInt K)) (fun (s : m_law_pressed_S) => (m_law_pressed_c4 s).1), .fz (tInt K) (fun (s : m_law_pressed_S) => s.2.1), .fz (tInt K) (fun (s : m_law_pressed_S) => s.2.2.1), .fz (tOpt (tInt K)) (fun (s : m_law_pressed_S) => s.2.2.2.1), .ow (oList (tTp [(tStr K), (tInt K)])) (fun (s : m_law_pressed_S) => (m_law_pressed_v_found_1 s)), .fz (tInt K) (fun (s : m_law_pressed_S) => (m_law_pressed_v_near_2 s)), .dead, .dead] : Ctx K m_law_pressed_S)) (Δl := ([.ow (oList (tInt K)) (fun (s : (m_law_pressed_S × m_law_pressed_L5M)) => s.2.1), .fz (tInt K) (fun (s : (m_law_pressed_S × m_law_pressed_L5M)) => s.1.2.1), .fz (tInt K) (fun (s : (m_law_pressed_S × m_law_pressed_L5M)) => s.1.2.2.1), .fz (tOpt (tInt K)) (fun (s : (m_law_pressed_S × m_law_pressed_L5M)) => s.1.2.2.2.1), .ow (oList (tTp [(tStr K), (tInt K)])) (fun (s : (m_law_pressed_S × m_law_pressed_L5M)) => s.2.2.1), .fz (tInt K) (fun (s : (m_law_pressed_S × m_law_pressed_L5M)) => s.2.2.2), .dead, .dead] : Ctx K (m_law_pressed_S × m_law_pressed_L5M))) (Δb := ([.ow (oList (tInt K)) (fun (s : m_law_pressed_L5T) => s.1.2.1), .fz (tInt K) (fun (s : m_law_pressed_L5T) => s.1.1.2.1), .fz (tInt K) (fun (s : m_law_pressed_L5T) => s.1.1.2.2.1), .fz (tOpt (tInt K)) (fun (s : m_law_pressed_L5T) => s.1.1.2.2.2.1), .ow (oList (tTp [(tStr K), (tInt K)])) (fun (s : m_law_pressed_L5T) => s.1.2.2.1), .fz (tInt K) (fun (s : m_law_pressed_L5T) => s.1.2.2.2), .fz (tInt K) (fun (s : m_law_pressed_L5T) => s.2), .dead] : Ctx K m_law_pressed_L5T)) (Δe := ([.ow (oList (tInt K)) (fun (s : m_law_pressed_L5T) => (m_law_pressed_c7 s).1), .fz (tInt K) (fun (s : m_law_pressed_L5T) => s.1.1.2.1), .fz (tInt K) (fun (s : m_law_pressed_L5T) => s.1.1.2.2.1), .fz (tOpt (tInt K)) (fun (s : m_law_pressed_L5T) => s.1.1.2.2.2.1), .ow (oList (tTp [(tStr K), (tInt K)])) (fun (s : m_law_pressed_L5T) => (m_law_pressed_v_found_9 s)), .fz (tInt K) (fun (s : m_law_pressed_L5T) => (m_law_pressed_c6 s).2), .fz (tInt K) (fun (s : m_law_pressed_L5T) => s.2), .fz (tBool K) (fun (s : m_law_pressed_L5T) => (m_law_pressed_v_is_range_8 s))] : Ctx K m_law_pressed_L5T)) (DI.conv (DI.range1 T.n_range (DX.ix (ll_list (τ := (tInt K))) (0 : Int) (DX.ofL (DO.lst (τ := (tInt K)) (DL.cons (DX.ofC (fm := m_law_draw_fm K) (τ := (tInt K)) (DC.call ((m_law_draw_ok T).mono (by decide)) hr T.g32 T.F32.kp T.b32 (DA.mu (j := 0) rfl (DA.cons (DX.add (DX.var (i := 2) rfl) DX.int) DA.nil)) (.mu rfl (.fz .nil)) (.mu (.fz .nil)) nd1 (by exact ⟨⟨_, _, rfl⟩, trivial⟩)) rfl (fun _ => HEq.rfl)) (DL.cons (DX.var (i := 2) rfl) DL.nil)) (hl := fun _ => (by decide : 2 ≤ sizeLine)))) (DX.ofC (fm := m_law_draw_fm K) (τ := (tInt K)) (DC.call ((m_law_draw_ok T).mono (by decide)) hr T.g32 T.F32.kp T.b32 (DA.mu (j := 0) rfl (DA.cons DX.int DA.nil)) (.mu rfl (.fz .nil)) (.mu (.fz .nil)) nd1 (by exact ⟨⟨_, _, rfl⟩, trivial⟩)) rfl (fun _ => HEq.rfl)))) rfl rfl (by exact rfl)) (by exact ⟨⟨_, _, rfl⟩, ⟨⟨_, _, rfl⟩, trivial⟩⟩) (.ow (ω := (oList (tInt K))) (fun (m : m_law_pressed_L5M) => m.1) (fun _ => by rfl) (.keep (.keep (.keep (.ow (ω := (oList (tTp [(tStr K), (tInt K)]))) (fun (m : m_law_pressed_L5M) => m.2.1) (fun _ => by rfl) (.fz (τ := (tInt K)) (fun (m : m_law_pressed_L5M) => m.2.2) (fun _ => by rfl) (.dead (.dead .nil)))))))) (DG.name (i := 6) sc37.nd rfl (.inl rfl)) (by show ∀ j ∈ ([6] : List Nat), j ∉ ([0] : List Nat); decide) (
      DN.cons (Δ1 := ([.ow (oList (tInt K)) (fun (s : m_law_pressed_L5T) => (m_law_pressed_c6 s).1), .fz (tInt K) (fun (s : m_law_pressed_L5T) => s.1.1.2.1), .fz (tInt K) (fun (s : m_law_pressed_L5T) => s.1.1.2.2.1), .fz (tOpt (tInt K)) (fun (s : m_law_pressed_L5T) => s.1.1.2.2.2.1), .ow (oList (tTp [(tStr K), (tInt K)])) (fun (s : m_law_pressed_L5T) => s.1.2.2.1), .fz (tInt K) (fun (s : m_law_pressed_L5T) => (m_law_pressed_c6 s).2), .fz (tInt K) (fun (s : m_law_pressed_L5T) => s.2), .dead] : Ctx K m_law_pressed_L5T)) (DS.conv (DS.asg (DX.ofC (fm := m_law_item_fm K) (τ := (tInt K)) (DC.call ((m_law_item_ok T).mono (by decide)) hr T.g35 T.F35.kp T.b35 (DA.mu (j := 0) rfl (DA.cons (DX.var (i := 1) rfl) (DA.cons (DX.var (i := 5) rfl) DA.nil))) (.mu rfl (.fz (.fz .nil))) (.mu (.fz (.fz .nil))) nd1 (by exact ⟨⟨_, _, rfl⟩, trivial⟩)) rfl (fun _ => HEq.rfl)) (DG.name (i := 5) sc37.nd rfl (.inl rfl)) (by exact ⟨⟨_, _, rfl⟩, trivial⟩) (by show ∀ j ∈ ([5] : List Nat), j ∉ ([0] : List Nat); decide)) rfl (by exact rfl)) <|
      DN.cons (Δ1 := ([.ow (oList (tInt K)) (fun (s : m_law_pressed_L5T) => (m_law_pressed_c7 s).1), .fz (tInt K) (fun (s : m_law_pressed_L5T) => s.1.1.2.1), .fz (tInt K) (fun (s : m_law_pressed_L5T) => s.1.1.2.2.1), .fz (tOpt (tInt K)) (fun (s : m_law_pressed_L5T) => s.1.1.2.2.2.1), .ow (oList (tTp [(tStr K), (tInt K)])) (fun (s : m_law_pressed_L5T) => s.1.2.2.1), .fz (tInt K) (fun (s : m_law_pressed_L5T) => (m_law_pressed_c6 s).2), .fz (tInt K) (fun (s : m_law_pressed_L5T) => s.2), .fz (tBool K) (fun (s : m_law_pressed_L5T) => (m_law_pressed_v_is_range_8 s))] : Ctx K m_law_pressed_L5T)) (DS.conv (DS.asg (DX.borrowE 4 rfl (DX.and (DX.eq hr.rm dat_int (DX.ofC (fm := m_law_draw_fm K) (τ := (tInt K)) (DC.call ((m_law_draw_ok T).mono (by decide)) hr T.g32 T.F32.kp T.b32 (DA.mu (j := 0) rfl (DA.cons DX.int DA.nil)) (.mu rfl (.fz .nil)) (.mu (.fz .nil)) nd1 (by exact ⟨⟨_, _, rfl⟩, trivial⟩)) rfl (fun _ => HEq.rfl)) DX.int (hn := n64 (m := 1) rfl)) (DX.and1 (DX.pu (DX.or (DX.ne hr.rm (dat_list (dat_t2 dat_str dat_int)) (DX.var (i := 4) rfl) (DX.ofL (DO.lst (τ := (tTp [(tStr K), (tInt K)])) DL.nil (hl := fun _ => (by decide : 0 ≤ sizeLine)))) (hn := n64 (m := 3) rfl)) (DX.and1 (DX.pu (DX.notN (DX.var (i := 3) rfl)) rfl rfl))) rfl rfl))) lf_bool (by show 4 ∉ ([0] : List Nat); decide) (by exact ⟨⟨_, _, rfl⟩, trivial⟩) (by exact ⟨⟨_, _, rfl, lfo_list lf_int⟩, trivial⟩)) (DG.name (i := 7) sc37.nd rfl (.inl rfl)) (by exact ⟨⟨_, _, rfl⟩, trivial⟩) (by show ∀ j ∈ ([7] : List Nat), j ∉ ([0] : List Nat); decide)) rfl (by exact rfl)) <|
      DN.cons (Δ1 := ([.ow (oList (tInt K)) (fun (s : m_law_pressed_L5T) => (m_law_pressed_c7 s).1), .fz (tInt K) (fun (s : m_law_pressed_L5T) => s.1.1.2.1), .fz (tInt K) (fun (s : m_law_pressed_L5T) => s.1.1.2.2.1), .fz (tOpt (tInt K)) (fun (s : m_law_pressed_L5T) => s.1.1.2.2.2.1), .ow (oList (tTp [(tStr K), (tInt K)])) (fun (s : m_law_pressed_L5T) => (m_law_pressed_v_found_9 s)), .fz (tInt K) (fun (s : m_law_pressed_L5T) => (m_law_pressed_c6 s).2), .fz (tInt K) (fun (s : m_law_pressed_L5T) => s.2), .fz (tBool K) (fun (s : m_law_pressed_L5T) => (m_law_pressed_v_is_range_8 s))] : Ctx K m_law_pressed_L5T)) (DS.conv (DS.expr (DX.append (i := 4) (DX.tup (DTs.cons (DX.ite (DT.ofX (DX.var (i := 7) rfl)) (DX.pu (DX.str (h := ok_str _)) rfl rfl) (DX.pu (DX.str (h := ok_str _)) rfl rfl)) (DTs.one (DX.var (i := 5) rfl))) (hl := (by decide : 2 ≤ sizeLine))) rfl rfl) (by exact ⟨⟨_, _, rfl⟩, trivial⟩)) rfl (by exact rfl)) <|
      DN.fin rfl
    ) (.ow (ω := (oList (tInt K))) (pr := fun (m : m_law_pressed_L5M) => m.1) (fun _ => by rfl) (.keep (sl := .fz (tInt K) (fun (s : m_law_pressed_S) => s.2.1)) (.keep (sl := .fz (tInt K) (fun (s : m_law_pressed_S) => s.2.2.1)) (.keep (sl := .fz (tOpt (tInt K)) (fun (s : m_law_pressed_S) => s.2.2.2.1)) (.ow (ω := (oList (tTp [(tStr K), (tInt K)]))) (pr := fun (m : m_law_pressed_L5M) => m.2.1) (fun _ => by rfl) (.fz (τ := (tInt K)) (pr := fun (m : m_law_pressed_L5M) => m.2.2) (fun _ => by rfl) (.dead (.dead .nil))))))))) rfl rfl) <|
    DR.retN (f := fun (s : m_law_pressed_S) => ((m_law_pressed_L5 s).1, (m_law_pressed_L5 s).2.1)) (i := 4) rfl (by show 4 ∉ ([0] : List Nat); decide) (.mu rfl (.fz (.fz (.fz .nil)))) ⟨rfl, fun _ => HEq.rfl, fun _ => rfl⟩
    ) (by exact fun _ => (hide_eq _).symm) (by exact fun _ h => h)
theorem mis_integer_ok (T : Tx K mg) : FnG P w K mg base CX0 1 T.a8 T.d8 ["value", "least", "most"] (SpOf (mis_integer_fm K) mis_integer_p mis_integer) := by
  refine def_ok T.F8 sc8 rfl (by decide) fun cdv A outer s H E hr => ?_
  exact def_fin (Δ := ([.fz (tInt K) (fun (s : mis_integer_S) => s.1), .fz (tInt K) (fun (s : mis_integer_S) => s.2.1), .fz (tInt K) (fun (s : mis_integer_S) => s.2.2.1)] : Ctx K mis_integer_S)) (p := mis_integer_p) (fv := mis_integer) (
    DR.ret (f := fun (s : mis_integer_S) => (true && ((!false) && (pLe s.2.1 s.1 && pLe s.1 s.2.2.1)))) (DX.and (DX.isi (T2 := "int") (r := true) (DX.var (i := 0) rfl) kind_int (by decide +kernel) T.n_isinstance T.n_int (by decide +kernel)) (DX.and (DX.pu (DX.not (DX.isi (T2 := "bool") (r := false) (DX.var (i := 0) rfl) kind_int (by decide +kernel) T.n_isinstance T.n_bool (by decide +kernel))) rfl rfl) (DX.and1 (DX.pu (DX.chain ch_le ch_le (DX.var (i := 1) rfl) (DX.var (i := 0) rfl) (DX.pu (DX.var (i := 2) rfl) rfl rfl)) rfl rfl)))) (OwnAll.all (by exact trivial)) (.fz (.fz (.fz .nil))) ⟨rfl, fun _ => HEq.rfl, fun _ => rfl⟩
    ) (by exact fun _ => (hide_eq _).symm) (by exact fun _ h => h)
theorem mcheck_items_ok (T : Tx K mg) : FnG P w K mg base CX0 2 T.a9 T.d9 ["items"] (SpOf (mcheck_items_fm K) mcheck_items_p mcheck_items) := by
  refine def_ok T.F9 sc9 rfl (by decide) fun cdv A outer s H E hr => ?_
  exact def_finN (Δ := ([.fz (tInt K) (fun (s : mcheck_items_S) => s.1)] : Ctx K mcheck_items_S)) (p := mcheck_items_p) (fv := mcheck_items) (
    DN.cons (Δ1 := ([.fz (tInt K) (fun (s : mcheck_items_S) => s.1)] : Ctx K mcheck_items_S)) (DS.conv (DS.guard (DT.not (DT.ofX (DX.ofC (fm := mis_integer_fm K) (τ := (tBool K)) (DC.call ((mis_integer_ok T).mono (by decide)) hr T.g8 T.F8.kp T.b8 (DA.cons (DX.var (i := 0) rfl) (DA.cons DX.int (DA.cons (DX.glbI (by rfl) T.c_MOST_ITEMS) DA.nil))) (.fz (.fz (.fz .nil))) (.fz (.fz (.fz .nil))) List.nodup_nil (by exact trivial)) rfl (fun _ => HEq.rfl)))) (by exact trivial)) rfl (by exact rfl)) <|
    DN.fin rfl
    ) (.fz .nil) ⟨rfl, fun _ => HEq.rfl, fun _ => rfl⟩ (by exact fun _ h => h)
theorem mis_run_ok (T : Tx K mg) : FnG P w K mg base CX0 2 T.a10 T.d10 ["items", "value"] (SpOf (mis_run_fm K) mis_run_p mis_run) := by
  refine def_ok T.F10 sc10 rfl (by decide) fun cdv A outer s H E hr => ?_
  exact def_fin (Δ := ([.fz (tInt K) (fun (s : mis_run_S) => s.1), .fz (tTp [(tInt K), (tInt K)]) (fun (s : mis_run_S) => s.2.1)] : Ctx K mis_run_S)) (p := mis_run_p) (fv := mis_run) (
    DR.if1 (h := fun (s : mis_run_S) => ((!true) || ((!(dfInt).eq (2 : Int) (2 : Int)) || (!(mis_run_c1 s))))) (Δ1 := ([.fz (tInt K) (fun (s : mis_run_S) => s.1), .fz (tTp [(tInt K), (tInt K)]) (fun (s : mis_run_S) => s.2.1)] : Ctx K mis_run_S)) (DT.conv (DW.t (DW.or (DT.not (DT.ofX (DX.isi (T2 := "tuple") (r := true) (DX.var (i := 1) rfl) kind_tup (by decide +kernel) T.n_isinstance T.n_tuple (by decide +kernel)))) (DW.pu (DW.or (DT.ne hr.rm dat_int (DX.lenT (ts := [(tInt K), (tInt K)]) T.n_len (DX.var (i := 1) rfl)) DX.int (hn := n64 (m := 1) rfl)) (DW.pu (DW.or1 (DT.not (DT.ofX (DX.ofC (fm := mis_integer_fm K) (τ := (tBool K)) (DC.call ((mis_integer_ok T).mono (by decide)) hr T.g8 T.F8.kp T.b8 (DA.cons (DX.tix (k := 0) (DX.var (i := 1) rfl) .zero) (DA.cons DX.int (DA.cons (DX.sub (DX.var (i := 0) rfl) DX.int) DA.nil))) (.fz (.fz (.fz .nil))) (.fz (.fz (.fz .nil))) List.nodup_nil (by exact trivial)) rfl (fun _ => HEq.rfl))))) rfl rfl)) rfl rfl))) rfl rfl (by exact rfl)) (by exact trivial) (
      DR.ret (f := fun (s : mis_run_S) => false) DX.fls (OwnAll.all (by exact trivial)) (.fz (.fz .nil)) ⟨rfl, fun _ => HEq.rfl, fun _ => rfl⟩
    ) (
      DR.ret (f := fun (s : mis_run_S) => (mis_run_c2 s)) (DX.ofC (fm := mis_integer_fm K) (τ := (tBool K)) (DC.call ((mis_integer_ok T).mono (by decide)) hr T.g8 T.F8.kp T.b8 (DA.cons (DX.tix (k := 1) (DX.var (i := 1) rfl) (.succ .last)) (DA.cons (DX.tix (k := 0) (DX.var (i := 1) rfl) .zero) (DA.cons (DX.sub (DX.var (i := 0) rfl) DX.int) DA.nil))) (.fz (.fz (.fz .nil))) (.fz (.fz (.fz .nil))) List.nodup_nil (by exact trivial)) rfl (fun _ => HEq.rfl)) (OwnAll.all (by exact trivial)) (.fz (.fz .nil)) ⟨rfl, fun _ => HEq.rfl, fun _ => rfl⟩
    )
    ) (by exact fun _ => (hide_eq _).symm) (by exact fun _ h => h)
theorem mare_runs_ok (T : Tx K mg) : FnG P w K mg base CX0 3 T.a11 T.d11 ["items", "value"] (SpOf (mare_runs_fm K) mare_runs_p mare_runs) := by
  refine def_ok T.F11 sc11 rfl (by decide) fun cdv A outer s H E hr => ?_
  exact def_fin (Δ := ([.fz (tInt K) (fun (s : mare_runs_S) => s.1), .fz (tList (tTp [(tInt K), (tInt K)])) (fun (s : mare_runs_S) => s.2.1), .dead, .dead, .dead] : Ctx K mare_runs_S)) (p := mare_runs_p) (fv := mare_runs) (
    DR.if1 (h := fun (s : mare_runs_S) => ((!true) || (!(((lcV s.2.1 (fun x => true) (fun x => (mare_runs_c1 (s, x))))).all id)))) (Δ1 := ([.fz (tInt K) (fun (s : mare_runs_S) => s.1), .fz (tList (tTp [(tInt K), (tInt K)])) (fun (s : mare_runs_S) => s.2.1), .dead, .dead, .dead] : Ctx K mare_runs_S)) (DT.conv (DW.t (DW.or (DT.not (DT.ofX (DX.isi (T2 := "list") (r := true) (DX.var (i := 1) rfl) kind_list (by decide +kernel) T.n_isinstance T.n_list (by decide +kernel)))) (DW.pu (DW.or1 (DT.not (DT.ofX (DX.all T.n_all (DX.ofL (DO.lc (own := [("run", 2)]) (Δb := ([.fz (tInt K) (fun (s : (mare_runs_S × (Int × Int))) => s.1.1), .fz (tList (tTp [(tInt K), (tInt K)])) (fun (s : (mare_runs_S × (Int × Int))) => s.1.2.1), .fz (tTp [(tInt K), (tInt K)]) (fun (s : (mare_runs_S × (Int × Int))) => s.2), .dead, .dead] : Ctx K (mare_runs_S × (Int × Int)))) sc11.nd (DI.list ll_list (DX.var (i := 1) rfl)) (blkOk_by (N := ["items", "value", "run", "one", "other"]) (sc := defScope (topS 11)) (own := [("run", 2)]) (by decide +kernel)) (fun _ _ _ _ _ => (DG.name (i := 2) sc11.nd rfl (.inl rfl))) (fun _ _ _ _ _ => DTs'.nil) (fun _ _ _ _ _ => (DX.pu (DX.ofC (fm := mis_run_fm K) (τ := (tBool K)) (DC.call ((mis_run_ok T).mono (by decide)) hr T.g10 T.F10.kp T.b10 (DA.cons (DX.var (i := 0) rfl) (DA.cons (DX.var (i := 2) rfl) DA.nil)) (.fz (.fz .nil)) (.fz (.fz .nil)) List.nodup_nil (by exact trivial)) rfl (fun _ => HEq.rfl)) rfl rfl)) (by decide))))))) rfl rfl))) rfl rfl (by exact rfl)) (by exact trivial) (
      DR.ret (f := fun (s : mare_runs_S) => false) DX.fls (OwnAll.all (by exact trivial)) (.fz (.fz .nil)) ⟨rfl, fun _ => HEq.rfl, fun _ => rfl⟩
    ) (
      DR.ret (f := fun (s : mare_runs_S) => (((lcV (List.zip s.2.1 (cutL s.2.1 (some (1 : Int)) none)) (fun x => true) (fun x => (decide (((s, x).2.1.2 + (1 : Int)) < (s, x).2.2.1))))).all id)) (DX.all T.n_all (DX.ofL (DO.lc (own := [("one", 3), ("other", 4)]) (Δb := ([.fz (tInt K) (fun (s : (mare_runs_S × ((Int × Int) × (Int × Int)))) => s.1.1), .fz (tList (tTp [(tInt K), (tInt K)])) (fun (s : (mare_runs_S × ((Int × Int) × (Int × Int)))) => s.1.2.1), .dead, .fz (tTp [(tInt K), (tInt K)]) (fun (s : (mare_runs_S × ((Int × Int) × (Int × Int)))) => s.2.1), .fz (tTp [(tInt K), (tInt K)]) (fun (s : (mare_runs_S × ((Int × Int) × (Int × Int)))) => s.2.2)] : Ctx K (mare_runs_S × ((Int × Int) × (Int × Int))))) sc11.nd (DI.zip ll_list ll_list T.n_zip (DX.var (i := 1) rfl) (DX.ofL (DO.sl ll_list (DX.var (i := 1) rfl) (DPo.some DX.int) DPo.none))) (blkOk_by (N := ["items", "value", "run", "one", "other"]) (sc := defScope (topS 11)) (own := [("one", 3), ("other", 4)]) (by decide +kernel)) (fun _ _ _ _ _ => (DG.tup (DGs.cons (DG.name (i := 3) sc11.nd rfl (.inl rfl)) (DGs.one (DG.name (i := 4) sc11.nd rfl (.inl rfl)))))) (fun _ _ _ _ _ => DTs'.nil) (fun _ _ _ _ _ => (DX.pu (DX.lt (DX.add (DX.tix (k := 1) (DX.var (i := 3) rfl) (.succ .last)) DX.int) (DX.tix (k := 0) (DX.var (i := 4) rfl) .zero)) rfl rfl)) (by decide)))) (OwnAll.all (by exact trivial)) (.fz (.fz .nil)) ⟨rfl, fun _ => HEq.rfl, fun _ => rfl⟩
    )
    ) (by exact fun _ => (hide_eq _).symm) (by exact fun _ h => h)
theorem mis_selection_ok (T : Tx K mg) : FnG P w K mg base CX0 4 T.a12 T.d12 ["items", "value"] (SpOf (mis_selection_fm K) mis_selection_p mis_selection) := by
  refine def_ok T.F12 sc12 rfl (by decide) fun cdv A outer s H E hr => ?_
  exact def_fin (Δ := ([.fz (tInt K) (fun (s : mis_selection_S) => s.1), .fz (tList (tTp [(tInt K), (tInt K)])) (fun (s : mis_selection_S) => s.2.1)] : Ctx K mis_selection_S)) (p := mis_selection_p) (fv := mis_selection) (
    DR.cons (Δ1 := ([.fz (tInt K) (fun (s : mis_selection_S) => s.1), .fz (tList (tTp [(tInt K), (tInt K)])) (fun (s : mis_selection_S) => s.2.1)] : Ctx K mis_selection_S)) (DS.conv (DS.expr (DX.ofC (fm := mcheck_items_fm K) (τ := (tNone K)) (DC.call ((mcheck_items_ok T).mono (by decide)) hr T.g9 T.F9.kp T.b9 (DA.cons (DX.var (i := 0) rfl) DA.nil) (.fz .nil) (.fz .nil) List.nodup_nil (by exact trivial)) rfl (fun _ => HEq.rfl)) (by exact trivial)) rfl (by exact rfl)) <|
    DR.ret (f := fun (s : mis_selection_S) => (mis_selection_c2 s)) (DX.ofC (fm := mare_runs_fm K) (τ := (tBool K)) (DC.call ((mare_runs_ok T).mono (by decide)) hr T.g11 T.F11.kp T.b11 (DA.cons (DX.var (i := 0) rfl) (DA.cons (DX.var (i := 1) rfl) DA.nil)) (.fz (.fz .nil)) (.fz (.fz .nil)) List.nodup_nil (by exact trivial)) rfl (fun _ => HEq.rfl)) (OwnAll.all (by exact trivial)) (.fz (.fz .nil)) ⟨rfl, fun _ => HEq.rfl, fun _ => rfl⟩
    ) (by exact fun _ => (hide_eq _).symm) (by exact fun _ h => h)
theorem mis_state_ok (T : Tx K mg) : FnG P w K mg base CX0 5 T.a21 T.d21 ["value"] (SpOf (mis_state_fm K) mis_state_p mis_state) := by
  refine def_ok T.F21 sc21 rfl (by decide) fun cdv A outer s H E hr => ?_
  exact def_fin (Δ := ([.fz (tTp [(tInt K), (tList (tTp [(tInt K), (tInt K)])), (tOpt (tInt K))]) (fun (s : mis_state_S) => s.1), .dead, .dead, .dead] : Ctx K mis_state_S)) (p := mis_state_p) (fv := mis_state) (
    DR.if1 (h := fun (s : mis_state_S) => ((!true) || ((!(dfInt).eq (3 : Int) (3 : Int)) || (!(mis_state_c1 s))))) (Δ1 := ([.fz (tTp [(tInt K), (tList (tTp [(tInt K), (tInt K)])), (tOpt (tInt K))]) (fun (s : mis_state_S) => s.1), .dead, .dead, .dead] : Ctx K mis_state_S)) (DT.conv (DW.t (DW.or (DT.not (DT.ofX (DX.isi (T2 := "tuple") (r := true) (DX.var (i := 0) rfl) kind_tup (by decide +kernel) T.n_isinstance T.n_tuple (by decide +kernel)))) (DW.pu (DW.or (DT.ne hr.rm dat_int (DX.lenT (ts := [(tInt K), (tList (tTp [(tInt K), (tInt K)])), (tOpt (tInt K))]) T.n_len (DX.var (i := 0) rfl)) DX.int (hn := n64 (m := 1) rfl)) (DW.pu (DW.or1 (DT.not (DT.ofX (DX.ofC (fm := mis_integer_fm K) (τ := (tBool K)) (DC.call ((mis_integer_ok T).mono (by decide)) hr T.g8 T.F8.kp T.b8 (DA.cons (DX.tix (k := 0) (DX.var (i := 0) rfl) .zero) (DA.cons DX.int (DA.cons (DX.glbI (by rfl) T.c_MOST_ITEMS) DA.nil))) (.fz (.fz (.fz .nil))) (.fz (.fz (.fz .nil))) List.nodup_nil (by exact trivial)) rfl (fun _ => HEq.rfl))))) rfl rfl)) rfl rfl))) rfl rfl (by exact rfl)) (by exact trivial) (
      DR.ret (f := fun (s : mis_state_S) => false) DX.fls (OwnAll.all (by exact trivial)) (.fz .nil) ⟨rfl, fun _ => HEq.rfl, fun _ => rfl⟩
    ) (
      DR.cons (Δ1 := ([.fz (tTp [(tInt K), (tList (tTp [(tInt K), (tInt K)])), (tOpt (tInt K))]) (fun (s : mis_state_S) => s.1), .fz (tInt K) (fun (s : mis_state_S) => (mis_state_t2 s).1), .fz (tList (tTp [(tInt K), (tInt K)])) (fun (s : mis_state_S) => (mis_state_t2 s).2.1), .fz (tOpt (tInt K)) (fun (s : mis_state_S) => (mis_state_t2 s).2.2)] : Ctx K mis_state_S)) (DS.conv (DS.asg (DX.conv (f' := fun (s : mis_state_S) => (mis_state_t2 s)) (DX.var (i := 0) rfl) rfl rfl (by exact rfl)) (DG.tup (DGs.cons (DG.name (i := 1) sc21.nd rfl (.inl rfl)) (DGs.cons (DG.name (i := 2) sc21.nd rfl (.inl rfl)) (DGs.one (DG.name (i := 3) sc21.nd rfl (.inl rfl)))))) (by exact trivial) (by show ∀ j ∈ ([1, 2, 3] : List Nat), j ∉ ([] : List Nat); decide)) rfl (by exact rfl)) <|
      DR.ret (f := fun (s : mis_state_S) => ((mis_state_c3 s) && (((mis_state_t2 s).2.2).isNone || (mis_state_c4 s)))) (DX.and (DX.ofC (fm := mis_selection_fm K) (τ := (tBool K)) (DC.call ((mis_selection_ok T).mono (by decide)) hr T.g12 T.F12.kp T.b12 (DA.cons (DX.var (i := 1) rfl) (DA.cons (DX.var (i := 2) rfl) DA.nil)) (.fz (.fz .nil)) (.fz (.fz .nil)) List.nodup_nil (by exact trivial)) rfl (fun _ => HEq.rfl)) (DX.and1 (DX.pu (DX.or (DX.isN (DX.var (i := 3) rfl)) (DX.and1 (DX.pu (DX.ofC (fm := mis_integer_fm K) (τ := (tBool K)) (DC.call ((mis_integer_ok T).mono (by decide)) hr T.g8 T.F8.kp T.b8 (DA.cons (DX.getO (τ := (tInt K)) (0 : Int) (DX.var (i := 3) rfl)) (DA.cons DX.int (DA.cons (DX.sub (DX.var (i := 1) rfl) DX.int) DA.nil))) (.fz (.fz (.fz .nil))) (.fz (.fz (.fz .nil))) List.nodup_nil (by exact trivial)) rfl (fun _ => HEq.rfl)) rfl rfl))) rfl rfl))) (OwnAll.all (by exact trivial)) (.fz .nil) ⟨rfl, fun _ => HEq.rfl, fun _ => rfl⟩
    )
    ) (by exact fun _ => (hide_eq _).symm) (by exact fun _ h => h)
theorem mcheck_state_ok (T : Tx K mg) : FnG P w K mg base CX0 6 T.a22 T.d22 ["state"] (SpOf (mcheck_state_fm K) mcheck_state_p mcheck_state) := by
  refine def_ok T.F22 sc22 rfl (by decide) fun cdv A outer s H E hr => ?_
  exact def_finN (Δ := ([.fz (tTp [(tInt K), (tList (tTp [(tInt K), (tInt K)])), (tOpt (tInt K))]) (fun (s : mcheck_state_S) => s.1)] : Ctx K mcheck_state_S)) (p := mcheck_state_p) (fv := mcheck_state) (
    DN.cons (Δ1 := ([.fz (tTp [(tInt K), (tList (tTp [(tInt K), (tInt K)])), (tOpt (tInt K))]) (fun (s : mcheck_state_S) => s.1)] : Ctx K mcheck_state_S)) (DS.conv (DS.guard (DT.not (DT.ofX (DX.ofC (fm := mis_state_fm K) (τ := (tBool K)) (DC.call ((mis_state_ok T).mono (by decide)) hr T.g21 T.F21.kp T.b21 (DA.cons (DX.var (i := 0) rfl) DA.nil) (.fz .nil) (.fz .nil) List.nodup_nil (by exact trivial)) rfl (fun _ => HEq.rfl)))) (by exact trivial)) rfl (by exact rfl)) <|
    DN.fin rfl
    ) (.fz .nil) ⟨rfl, fun _ => HEq.rfl, fun _ => rfl⟩ (by exact fun _ h => h)
theorem mis_click_ok (T : Tx K mg) : FnG P w K mg base CX0 2 T.a18 T.d18 ["items", "value"] (SpOf (mis_click_fm K) mis_click_p mis_click) := by
  refine def_ok T.F18 sc18 rfl (by decide) fun cdv A outer s H E hr => ?_
  exact def_fin (Δ := ([.fz (tInt K) (fun (s : mis_click_S) => s.1), .fz (tTp [(tStr K), (tInt K)]) (fun (s : mis_click_S) => s.2.1)] : Ctx K mis_click_S)) (p := mis_click_p) (fv := mis_click) (
    DR.if1 (h := fun (s : mis_click_S) => ((!true) || ((!(dfInt).eq (2 : Int) (2 : Int)) || (!decide (s.2.1.1 = ((("click" : Str), ("range" : Str))).1 ∨ s.2.1.1 = ((("click" : Str), ("range" : Str))).2))))) (Δ1 := ([.fz (tInt K) (fun (s : mis_click_S) => s.1), .fz (tTp [(tStr K), (tInt K)]) (fun (s : mis_click_S) => s.2.1)] : Ctx K mis_click_S)) (DT.conv (DW.t (DW.or (DT.not (DT.ofX (DX.isi (T2 := "tuple") (r := true) (DX.var (i := 1) rfl) kind_tup (by decide +kernel) T.n_isinstance T.n_tuple (by decide +kernel)))) (DW.pu (DW.or (DT.ne hr.rm dat_int (DX.lenT (ts := [(tStr K), (tInt K)]) T.n_len (DX.var (i := 1) rfl)) DX.int (hn := n64 (m := 1) rfl)) (DW.pu (DW.or1 (DT.ninTS (DX.tix (k := 0) (DX.var (i := 1) rfl) .zero) (DX.tup (DTs.cons (DX.glbS (by rfl) T.c_CLICK (h := ok_str _)) (DTs.one (DX.glbS (by rfl) T.c_RANGE (h := ok_str _)))) (hl := (by decide : 2 ≤ sizeLine))))) rfl rfl)) rfl rfl))) rfl rfl (by exact rfl)) (by exact trivial) (
      DR.ret (f := fun (s : mis_click_S) => false) DX.fls (OwnAll.all (by exact trivial)) (.fz (.fz .nil)) ⟨rfl, fun _ => HEq.rfl, fun _ => rfl⟩
    ) (
      DR.ret (f := fun (s : mis_click_S) => (mis_click_c1 s)) (DX.ofC (fm := mis_integer_fm K) (τ := (tBool K)) (DC.call ((mis_integer_ok T).mono (by decide)) hr T.g8 T.F8.kp T.b8 (DA.cons (DX.tix (k := 1) (DX.var (i := 1) rfl) (.succ .last)) (DA.cons DX.int (DA.cons (DX.sub (DX.var (i := 0) rfl) DX.int) DA.nil))) (.fz (.fz (.fz .nil))) (.fz (.fz (.fz .nil))) List.nodup_nil (by exact trivial)) rfl (fun _ => HEq.rfl)) (OwnAll.all (by exact trivial)) (.fz (.fz .nil)) ⟨rfl, fun _ => HEq.rfl, fun _ => rfl⟩
    )
    ) (by exact fun _ => (hide_eq _).symm) (by exact fun _ h => h)
theorem mcheck_clicks_ok (T : Tx K mg) : FnG P w K mg base CX0 3 T.a19 T.d19 ["items", "clicks"] (SpOf (mcheck_clicks_fm K) mcheck_clicks_p mcheck_clicks) := by
  refine def_ok T.F19 sc19 rfl (by decide) fun cdv A outer s H E hr => ?_
  exact def_finN (Δ := ([.fz (tInt K) (fun (s : mcheck_clicks_S) => s.1), .fz (tList (tTp [(tStr K), (tInt K)])) (fun (s : mcheck_clicks_S) => s.2.1), .dead, .dead] : Ctx K mcheck_clicks_S)) (p := mcheck_clicks_p) (fv := mcheck_clicks) (
    DN.cons (Δ1 := ([.fz (tInt K) (fun (s : mcheck_clicks_S) => s.1), .fz (tList (tTp [(tStr K), (tInt K)])) (fun (s : mcheck_clicks_S) => s.2.1), .dead, .dead] : Ctx K mcheck_clicks_S)) (DS.conv (DS.guard (DT.not (DT.ofX (DX.isi (T2 := "list") (r := true) (DX.var (i := 1) rfl) kind_list (by decide +kernel) T.n_isinstance T.n_list (by decide +kernel)))) (by exact trivial)) rfl (by exact rfl)) <|
    DN.cons (Δ1 := ([.fz (tInt K) (fun (s : mcheck_clicks_S) => s.1), .fz (tList (tTp [(tStr K), (tInt K)])) (fun (s : mcheck_clicks_S) => s.2.1), .dead, .dead] : Ctx K mcheck_clicks_S)) (DS.conv (DS.forH (S := mcheck_clicks_S) (M := mcheck_clicks_L1M) (τ := (tTp [(tInt K), (tTp [(tStr K), (tInt K)])])) (init := fun s => mcheck_clicks_L1i s) (step := fun s => mcheck_clicks_L1s s) (fx := fun s => mcheck_clicks_L1x s) (Δ1 := ([.fz (tInt K) (fun (s : mcheck_clicks_S) => s.1), .fz (tList (tTp [(tStr K), (tInt K)])) (fun (s : mcheck_clicks_S) => s.2.1), .dead, .dead] : Ctx K mcheck_clicks_S)) (Δl := ([.fz (tInt K) (fun (s : (mcheck_clicks_S × mcheck_clicks_L1M)) => s.1.1), .fz (tList (tTp [(tStr K), (tInt K)])) (fun (s : (mcheck_clicks_S × mcheck_clicks_L1M)) => s.1.2.1), .dead, .dead] : Ctx K (mcheck_clicks_S × mcheck_clicks_L1M))) (Δb := ([.fz (tInt K) (fun (s : mcheck_clicks_L1T) => s.1.1.1), .fz (tList (tTp [(tStr K), (tInt K)])) (fun (s : mcheck_clicks_L1T) => s.1.1.2.1), .fz (tInt K) (fun (s : mcheck_clicks_L1T) => s.2.1), .fz (tTp [(tStr K), (tInt K)]) (fun (s : mcheck_clicks_L1T) => s.2.2)] : Ctx K mcheck_clicks_L1T)) (Δe := ([.fz (tInt K) (fun (s : mcheck_clicks_L1T) => s.1.1.1), .fz (tList (tTp [(tStr K), (tInt K)])) (fun (s : mcheck_clicks_L1T) => s.1.1.2.1), .fz (tInt K) (fun (s : mcheck_clicks_L1T) => s.2.1), .fz (tTp [(tStr K), (tInt K)]) (fun (s : mcheck_clicks_L1T) => s.2.2)] : Ctx K mcheck_clicks_L1T)) (DI.conv (DI.enum ll_list T.n_enumerate (DX.var (i := 1) rfl)) rfl rfl (by exact rfl)) (by exact trivial) (.keep (.keep (.dead (.dead .nil)))) (DG.tup (DGs.cons (DG.name (i := 2) sc19.nd rfl (.inl rfl)) (DGs.one (DG.name (i := 3) sc19.nd rfl (.inl rfl))))) (by show ∀ j ∈ ([2, 3] : List Nat), j ∉ ([] : List Nat); decide) (
      DN.cons (Δ1 := ([.fz (tInt K) (fun (s : mcheck_clicks_L1T) => s.1.1.1), .fz (tList (tTp [(tStr K), (tInt K)])) (fun (s : mcheck_clicks_L1T) => s.1.1.2.1), .fz (tInt K) (fun (s : mcheck_clicks_L1T) => s.2.1), .fz (tTp [(tStr K), (tInt K)]) (fun (s : mcheck_clicks_L1T) => s.2.2)] : Ctx K mcheck_clicks_L1T)) (DS.conv (DS.guard (DT.not (DT.ofX (DX.ofC (fm := mis_click_fm K) (τ := (tBool K)) (DC.call ((mis_click_ok T).mono (by decide)) hr T.g18 T.F18.kp T.b18 (DA.cons (DX.var (i := 0) rfl) (DA.cons (DX.var (i := 3) rfl) DA.nil)) (.fz (.fz .nil)) (.fz (.fz .nil)) List.nodup_nil (by exact trivial)) rfl (fun _ => HEq.rfl)))) (by exact trivial)) rfl (by exact rfl)) <|
      DN.fin rfl
    ) (.keep (sl := .fz (tInt K) (fun (s : mcheck_clicks_S) => s.1)) (.keep (sl := .fz (tList (tTp [(tStr K), (tInt K)])) (fun (s : mcheck_clicks_S) => s.2.1)) (.dead (.dead .nil))))) rfl rfl) <|
    DN.fin rfl
    ) (.fz (.fz .nil)) ⟨rfl, fun _ => HEq.rfl, fun _ => rfl⟩ (by exact fun _ h => h)
theorem mcheck_can_begin_ok (T : Tx K mg) : FnG P w K mg base CX0 1 T.a20 T.d20 ["clicks", "anchor"] (SpOf (mcheck_can_begin_fm K) mcheck_can_begin_p mcheck_can_begin) := by
  refine def_ok T.F20 sc20 rfl (by decide) fun cdv A outer s H E hr => ?_
  exact def_finN (Δ := ([.fz (tList (tTp [(tStr K), (tInt K)])) (fun (s : mcheck_can_begin_S) => s.1), .fz (tOpt (tInt K)) (fun (s : mcheck_can_begin_S) => s.2.1)] : Ctx K mcheck_can_begin_S)) (p := mcheck_can_begin_p) (fv := mcheck_can_begin) (
    DN.cons (Δ1 := ([.fz (tList (tTp [(tStr K), (tInt K)])) (fun (s : mcheck_can_begin_S) => s.1), .fz (tOpt (tInt K)) (fun (s : mcheck_can_begin_S) => s.2.1)] : Ctx K mcheck_can_begin_S)) (DS.conv (DS.guard (DW.t (DW.and (DT.ne hr.rm (dat_list (dat_t2 dat_str dat_int)) (DX.var (i := 0) rfl) (DX.ofL (DO.lst (τ := (tTp [(tStr K), (tInt K)])) DL.nil (hl := fun _ => (by decide : 0 ≤ sizeLine)))) (hn := n64 (m := 3) rfl)) (DW.pu (DW.and (DT.eq hr.rm dat_str (DX.tix (k := 0) (DX.ix (ll_list (τ := (tTp [(tStr K), (tInt K)]))) (Str.empty, (0 : Int)) (DX.var (i := 0) rfl) DX.int) .zero) (DX.glbS (by rfl) T.c_RANGE (h := ok_str _)) (hn := n64 (m := 1) rfl)) (DW.pu (DW.and1 (DT.isN (DX.var (i := 1) rfl))) rfl rfl)) rfl rfl))) (by exact trivial)) rfl (by exact rfl)) <|
    DN.fin rfl
    ) (.fz (.fz .nil)) ⟨rfl, fun _ => HEq.rfl, fun _ => rfl⟩ (by exact fun _ h => h)
theorem mborders_in_ok (T : Tx K mg) : FnG P w K mg base CX0 1 T.a13 T.d13 ["selection"] (SpOf (mborders_in_fm K) mborders_in_p mborders_in) := by
  refine def_ok T.F13 sc13 rfl (by decide) fun cdv A outer s H E hr => ?_
  exact def_fin (Δ := ([.fz (tList (tTp [(tInt K), (tInt K)])) (fun (s : mborders_in_S) => s.1), .dead, .dead, .dead] : Ctx K mborders_in_S)) (p := mborders_in_p) (fv := mborders_in) (
    DR.cons (Δ1 := ([.fz (tList (tTp [(tInt K), (tInt K)])) (fun (s : mborders_in_S) => s.1), .ow (oList (tInt K)) (fun (s : mborders_in_S) => (mborders_in_v_borders_1 s)), .dead, .dead] : Ctx K mborders_in_S)) (DS.conv (DS.setO (DO.lst (τ := (tInt K)) DL.nil (hl := fun _ => (by decide : 0 ≤ sizeLine))) (by exact trivial) sc13.nd (i := 1) rfl (.inl rfl) (by show 1 ∉ ([] : List Nat); decide)) rfl (by exact rfl)) <|
    DR.cons (Δ1 := ([.fz (tList (tTp [(tInt K), (tInt K)])) (fun (s : mborders_in_S) => s.1), .ow (oList (tInt K)) (fun (s : mborders_in_S) => (mborders_in_L2 s)), .dead, .dead] : Ctx K mborders_in_S)) (DS.conv (DS.forH (S := mborders_in_S) (M := mborders_in_L2M) (τ := (tTp [(tInt K), (tInt K)])) (init := fun s => mborders_in_L2i s) (step := fun s => mborders_in_L2s s) (fx := fun s => mborders_in_L2x s) (Δ1 := ([.fz (tList (tTp [(tInt K), (tInt K)])) (fun (s : mborders_in_S) => s.1), .ow (oList (tInt K)) (fun (s : mborders_in_S) => (mborders_in_v_borders_1 s)), .dead, .dead] : Ctx K mborders_in_S)) (Δl := ([.fz (tList (tTp [(tInt K), (tInt K)])) (fun (s : (mborders_in_S × mborders_in_L2M)) => s.1.1), .ow (oList (tInt K)) (fun (s : (mborders_in_S × mborders_in_L2M)) => s.2), .dead, .dead] : Ctx K (mborders_in_S × mborders_in_L2M))) (Δb := ([.fz (tList (tTp [(tInt K), (tInt K)])) (fun (s : mborders_in_L2T) => s.1.1.1), .ow (oList (tInt K)) (fun (s : mborders_in_L2T) => s.1.2), .fz (tInt K) (fun (s : mborders_in_L2T) => s.2.1), .fz (tInt K) (fun (s : mborders_in_L2T) => s.2.2)] : Ctx K mborders_in_L2T)) (Δe := ([.fz (tList (tTp [(tInt K), (tInt K)])) (fun (s : mborders_in_L2T) => s.1.1.1), .ow (oList (tInt K)) (fun (s : mborders_in_L2T) => (mborders_in_v_borders_3 s)), .fz (tInt K) (fun (s : mborders_in_L2T) => s.2.1), .fz (tInt K) (fun (s : mborders_in_L2T) => s.2.2)] : Ctx K mborders_in_L2T)) (DI.conv (DI.list ll_list (DX.var (i := 0) rfl)) rfl rfl (by exact rfl)) (by exact trivial) (.keep (.ow (ω := (oList (tInt K))) (fun (m : mborders_in_L2M) => m) (fun _ => by rfl) (.dead (.dead .nil)))) (DG.tup (DGs.cons (DG.name (i := 2) sc13.nd rfl (.inl rfl)) (DGs.one (DG.name (i := 3) sc13.nd rfl (.inl rfl))))) (by show ∀ j ∈ ([2, 3] : List Nat), j ∉ ([] : List Nat); decide) (
      DN.cons (Δ1 := ([.fz (tList (tTp [(tInt K), (tInt K)])) (fun (s : mborders_in_L2T) => s.1.1.1), .ow (oList (tInt K)) (fun (s : mborders_in_L2T) => (mborders_in_v_borders_3 s)), .fz (tInt K) (fun (s : mborders_in_L2T) => s.2.1), .fz (tInt K) (fun (s : mborders_in_L2T) => s.2.2)] : Ctx K mborders_in_L2T)) (DS.conv (DS.augL (DO.pu (DO.lst (τ := (tInt K)) (DL.cons (DX.var (i := 2) rfl) (DL.cons (DX.add (DX.var (i := 3) rfl) DX.int) DL.nil)) (hl := fun _ => (by decide : 2 ≤ sizeLine))) rfl rfl) (i := 1) rfl sc13.nd rfl (.inl rfl)) rfl (by exact rfl)) <|
      DN.fin rfl
    ) (.keep (sl := .fz (tList (tTp [(tInt K), (tInt K)])) (fun (s : mborders_in_S) => s.1)) (.ow (ω := (oList (tInt K))) (pr := fun (m : mborders_in_L2M) => m) (fun _ => by rfl) (.dead (.dead .nil))))) rfl rfl) <|
    DR.retN (f := fun (s : mborders_in_S) => (mborders_in_L2 s)) (i := 1) rfl (by show 1 ∉ ([] : List Nat); decide) (.fz .nil) ⟨rfl, fun _ => HEq.rfl, fun _ => rfl⟩
    ) (by exact fun _ => (hide_eq _).symm) (by exact fun _ h => h)
theorem mfrom_borders_ok (T : Tx K mg) : FnG P w K mg base CX0 1 T.a14 T.d14 ["borders"] (SpOf (mfrom_borders_fm K) mfrom_borders_p mfrom_borders) := by
  refine def_ok T.F14 sc14 rfl (by decide) fun cdv A outer s H E hr => ?_
  exact def_fin (Δ := ([.fz (tList (tInt K)) (fun (s : mfrom_borders_S) => s.1), .dead, .dead] : Ctx K mfrom_borders_S)) (p := mfrom_borders_p) (fv := mfrom_borders) (
    DR.retO (f := fun (s : mfrom_borders_S) => (lcV (List.zip (stepL s.1 none none (some (2 : Int))) (stepL s.1 (some (1 : Int)) none (some (2 : Int)))) (fun x => true) (fun x => ((s, x).2.1, ((s, x).2.2 - (1 : Int)))))) (DO.lc (own := [("first", 1), ("end", 2)]) (Δb := ([.fz (tList (tInt K)) (fun (s : (mfrom_borders_S × (Int × Int))) => s.1.1), .fz (tInt K) (fun (s : (mfrom_borders_S × (Int × Int))) => s.2.1), .fz (tInt K) (fun (s : (mfrom_borders_S × (Int × Int))) => s.2.2)] : Ctx K (mfrom_borders_S × (Int × Int)))) sc14.nd (DI.zip ll_list ll_list T.n_zip (DX.ofL (DO.slS ll_list (DX.var (i := 0) rfl) DPo.none DPo.none (DPo.some DX.int) (fun _ => by decide))) (DX.ofL (DO.slS ll_list (DX.var (i := 0) rfl) (DPo.some DX.int) DPo.none (DPo.some DX.int) (fun _ => by decide)))) (blkOk_by (N := ["borders", "first", "end"]) (sc := defScope (topS 14)) (own := [("first", 1), ("end", 2)]) (by decide +kernel)) (fun _ _ _ _ _ => (DG.tup (DGs.cons (DG.name (i := 1) sc14.nd rfl (.inl rfl)) (DGs.one (DG.name (i := 2) sc14.nd rfl (.inl rfl)))))) (fun _ _ _ _ _ => DTs'.nil) (fun _ _ _ _ _ => (DX.pu (DX.tup (DTs.cons (DX.var (i := 1) rfl) (DTs.one (DX.sub (DX.var (i := 2) rfl) DX.int))) (hl := (by decide : 2 ≤ sizeLine))) rfl rfl)) (by decide)) (OwnAll.all (by exact trivial)) (.fz .nil) ⟨rfl, fun _ => HEq.rfl, fun _ => rfl⟩
    ) (by exact fun _ => (hide_eq _).symm) (by exact fun _ h => h)
theorem mwith_click_ok (T : Tx K mg) : FnG P w K mg base CX0 2 T.a24 T.d24 ["selection", "item"] (SpOf (mwith_click_fm K) mwith_click_p mwith_click) := by
  refine def_ok T.F24 sc24 rfl (by decide) fun cdv A outer s H E hr => ?_
  exact def_fin (Δ := ([.fz (tList (tTp [(tInt K), (tInt K)])) (fun (s : mwith_click_S) => s.1), .fz (tInt K) (fun (s : mwith_click_S) => s.2.1), .dead, .dead, .dead, .dead] : Ctx K mwith_click_S)) (p := mwith_click_p) (fv := mwith_click) (
    DR.cons (Δ1 := ([.fz (tList (tTp [(tInt K), (tInt K)])) (fun (s : mwith_click_S) => s.1), .fz (tInt K) (fun (s : mwith_click_S) => s.2.1), .fz (tList (tInt K)) (fun (s : mwith_click_S) => (mwith_click_c1 s)), .dead, .dead, .dead] : Ctx K mwith_click_S)) (DS.conv (DS.asg (DX.ofL (DO.ofC (fm := mborders_in_fm K) (ω := (oList (tInt K))) (DC.call ((mborders_in_ok T).mono (by decide)) hr T.g13 T.F13.kp T.b13 (DA.cons (DX.var (i := 0) rfl) DA.nil) (.fz .nil) (.fz .nil) List.nodup_nil (by exact trivial)) rfl (fun _ => HEq.rfl))) (DG.name (i := 2) sc24.nd rfl (.inr rfl)) (by exact trivial) (by show ∀ j ∈ ([2] : List Nat), j ∉ ([] : List Nat); decide)) rfl (by exact rfl)) <|
    DR.cons (Δ1 := ([.fz (tList (tTp [(tInt K), (tInt K)])) (fun (s : mwith_click_S) => s.1), .fz (tInt K) (fun (s : mwith_click_S) => s.2.1), .fz (tList (tInt K)) (fun (s : mwith_click_S) => (mwith_click_c1 s)), .fz (tTp [(tInt K), (tInt K)]) (fun (s : mwith_click_S) => (mwith_click_v_ends_2 s)), .dead, .dead] : Ctx K mwith_click_S)) (DS.conv (DS.asg (DX.tup (DTs.cons (DX.var (i := 1) rfl) (DTs.one (DX.add (DX.var (i := 1) rfl) DX.int))) (hl := (by decide : 2 ≤ sizeLine))) (DG.name (i := 3) sc24.nd rfl (.inr rfl)) (by exact trivial) (by show ∀ j ∈ ([3] : List Nat), j ∉ ([] : List Nat); decide)) rfl (by exact rfl)) <|
    DR.cons (Δ1 := ([.fz (tList (tTp [(tInt K), (tInt K)])) (fun (s : mwith_click_S) => s.1), .fz (tInt K) (fun (s : mwith_click_S) => s.2.1), .fz (tList (tInt K)) (fun (s : mwith_click_S) => (mwith_click_c1 s)), .fz (tTp [(tInt K), (tInt K)]) (fun (s : mwith_click_S) => (mwith_click_v_ends_2 s)), .dead, .fz (tList (tInt K)) (fun (s : mwith_click_S) => (mwith_click_v_kept_3 s))] : Ctx K mwith_click_S)) (DS.conv (DS.setSF (DOS.lc (own := [("border", 4)]) (Δb := ([.fz (tList (tTp [(tInt K), (tInt K)])) (fun (s : (mwith_click_S × Int)) => s.1.1), .fz (tInt K) (fun (s : (mwith_click_S × Int)) => s.1.2.1), .fz (tList (tInt K)) (fun (s : (mwith_click_S × Int)) => (mwith_click_c1 s.1)), .fz (tTp [(tInt K), (tInt K)]) (fun (s : (mwith_click_S × Int)) => (mwith_click_v_ends_2 s.1)), .fz (tInt K) (fun (s : (mwith_click_S × Int)) => s.2), .dead] : Ctx K (mwith_click_S × Int))) sc24.nd (DI.list ll_list (DX.var (i := 2) rfl)) (blkOk_by (N := ["selection", "item", "borders", "ends", "border", "kept"]) (sc := defScope (topS 24)) (own := [("border", 4)]) (by decide +kernel)) (fun _ _ _ _ _ => (DG.name (i := 4) sc24.nd rfl (.inl rfl))) (fun _ _ _ _ _ => (DTs'.one (DT.pu (DT.ninT2 (DX.var (i := 4) rfl) (DX.var (i := 3) rfl)) rfl rfl))) (fun _ _ _ _ _ => (DX.pu (DX.var (i := 4) rfl) rfl rfl)) (by decide)) (by exact trivial) sc24.nd (i := 5) rfl rfl (by show 5 ∉ ([] : List Nat); decide)) rfl (by exact rfl)) <|
    DR.retO (f := fun (s : mwith_click_S) => (mwith_click_c4 s)) (DO.ofC (fm := mfrom_borders_fm K) (ω := (oList (tTp [(tInt K), (tInt K)]))) (DC.call ((mfrom_borders_ok T).mono (by decide)) hr T.g14 T.F14.kp T.b14 (DA.cons (DX.ofL (DO.sorted ll_list T.n_sorted (DX.ofL (DO.cat ll_list ll_list (DX.var (i := 5) rfl) (DX.ofL (DO.lc (own := [("border", 4)]) (Δb := ([.fz (tList (tTp [(tInt K), (tInt K)])) (fun (s : (mwith_click_S × Int)) => s.1.1), .fz (tInt K) (fun (s : (mwith_click_S × Int)) => s.1.2.1), .fz (tList (tInt K)) (fun (s : (mwith_click_S × Int)) => (mwith_click_c1 s.1)), .fz (tTp [(tInt K), (tInt K)]) (fun (s : (mwith_click_S × Int)) => (mwith_click_v_ends_2 s.1)), .fz (tInt K) (fun (s : (mwith_click_S × Int)) => s.2), .fz (tList (tInt K)) (fun (s : (mwith_click_S × Int)) => (mwith_click_v_kept_3 s.1))] : Ctx K (mwith_click_S × Int))) sc24.nd (DI.tup2 (DX.var (i := 3) rfl)) (blkOk_by (N := ["selection", "item", "borders", "ends", "border", "kept"]) (sc := defScope (topS 24)) (own := [("border", 4)]) (by decide +kernel)) (fun _ _ _ _ _ => (DG.name (i := 4) sc24.nd rfl (.inl rfl))) (fun _ _ _ _ _ => (DTs'.one (DT.pu (DT.ninI ll_list (DX.var (i := 4) rfl) (DX.var (i := 2) rfl)) rfl rfl))) (fun _ _ _ _ _ => (DX.pu (DX.var (i := 4) rfl) rfl rfl)) (by decide))))))) DA.nil) (.fz .nil) (.fz .nil) List.nodup_nil (by exact trivial)) rfl (fun _ => HEq.rfl)) (OwnAll.all (by exact trivial)) (.fz (.fz .nil)) ⟨rfl, fun _ => HEq.rfl, fun _ => rfl⟩
    ) (by exact fun _ => (hide_eq _).symm) (by exact fun _ h => h)
theorem mmarked_in_ok (T : Tx K mg) : FnG P w K mg base CX0 1 T.a23 T.d23 ["selection", "item"] (SpOf (mmarked_in_fm K) mmarked_in_p mmarked_in) := by
  refine def_ok T.F23 sc23 rfl (by decide) fun cdv A outer s H E hr => ?_
  exact def_fin (Δ := ([.fz (tList (tTp [(tInt K), (tInt K)])) (fun (s : mmarked_in_S) => s.1), .fz (tInt K) (fun (s : mmarked_in_S) => s.2.1), .dead, .dead] : Ctx K mmarked_in_S)) (p := mmarked_in_p) (fv := mmarked_in) (
    DR.ret (f := fun (s : mmarked_in_S) => (((lcV s.1 (fun x => true) (fun x => (pLe (s, x).2.1 (s, x).1.2.1 && pLe (s, x).1.2.1 (s, x).2.2)))).any id)) (DX.any T.n_any (DX.ofL (DO.lc (own := [("first", 2), ("last", 3)]) (Δb := ([.fz (tList (tTp [(tInt K), (tInt K)])) (fun (s : (mmarked_in_S × (Int × Int))) => s.1.1), .fz (tInt K) (fun (s : (mmarked_in_S × (Int × Int))) => s.1.2.1), .fz (tInt K) (fun (s : (mmarked_in_S × (Int × Int))) => s.2.1), .fz (tInt K) (fun (s : (mmarked_in_S × (Int × Int))) => s.2.2)] : Ctx K (mmarked_in_S × (Int × Int)))) sc23.nd (DI.list ll_list (DX.var (i := 0) rfl)) (blkOk_by (N := ["selection", "item", "first", "last"]) (sc := defScope (topS 23)) (own := [("first", 2), ("last", 3)]) (by decide +kernel)) (fun _ _ _ _ _ => (DG.tup (DGs.cons (DG.name (i := 2) sc23.nd rfl (.inl rfl)) (DGs.one (DG.name (i := 3) sc23.nd rfl (.inl rfl)))))) (fun _ _ _ _ _ => DTs'.nil) (fun _ _ _ _ _ => (DX.pu (DX.chain ch_le ch_le (DX.var (i := 2) rfl) (DX.var (i := 1) rfl) (DX.pu (DX.var (i := 3) rfl) rfl rfl)) rfl rfl)) (by decide)))) (OwnAll.all (by exact trivial)) (.fz (.fz .nil)) ⟨rfl, fun _ => HEq.rfl, fun _ => rfl⟩
    ) (by exact fun _ => (hide_eq _).symm) (by exact fun _ h => h)
theorem mwith_range_ok (T : Tx K mg) : FnG P w K mg base CX0 2 T.a25 T.d25 ["selection", "first", "last", "marked"] (SpOf (mwith_range_fm K) mwith_range_p mwith_range) := by
  refine def_ok T.F25 sc25 rfl (by decide) fun cdv A outer s H E hr => ?_
  exact def_fin (Δ := ([.fz (tList (tTp [(tInt K), (tInt K)])) (fun (s : mwith_range_S) => s.1), .fz (tInt K) (fun (s : mwith_range_S) => s.2.1), .fz (tInt K) (fun (s : mwith_range_S) => s.2.2.1), .fz (tBool K) (fun (s : mwith_range_S) => s.2.2.2.1), .dead, .dead] : Ctx K mwith_range_S)) (p := mwith_range_p) (fv := mwith_range) (
    DR.cons (Δ1 := ([.fz (tList (tTp [(tInt K), (tInt K)])) (fun (s : mwith_range_S) => s.1), .fz (tInt K) (fun (s : mwith_range_S) => s.2.1), .fz (tInt K) (fun (s : mwith_range_S) => s.2.2.1), .fz (tBool K) (fun (s : mwith_range_S) => s.2.2.2.1), .dead, .ow (oList (tInt K)) (fun (s : mwith_range_S) => (mwith_range_v_borders_2 s))] : Ctx K mwith_range_S)) (DS.conv (DS.setS (DOS.lc (own := [("border", 4)]) (Δb := ([.fz (tList (tTp [(tInt K), (tInt K)])) (fun (s : (mwith_range_S × Int)) => s.1.1), .fz (tInt K) (fun (s : (mwith_range_S × Int)) => s.1.2.1), .fz (tInt K) (fun (s : (mwith_range_S × Int)) => s.1.2.2.1), .fz (tBool K) (fun (s : (mwith_range_S × Int)) => s.1.2.2.2.1), .fz (tInt K) (fun (s : (mwith_range_S × Int)) => s.2), .dead] : Ctx K (mwith_range_S × Int))) sc25.nd (DI.list ll_list (DX.ofL (DO.ofC (fm := mborders_in_fm K) (ω := (oList (tInt K))) (DC.call ((mborders_in_ok T).mono (by decide)) hr T.g13 T.F13.kp T.b13 (DA.cons (DX.var (i := 0) rfl) DA.nil) (.fz .nil) (.fz .nil) List.nodup_nil (by exact trivial)) rfl (fun _ => HEq.rfl)))) (blkOk_by (N := ["selection", "first", "last", "marked", "border", "borders"]) (sc := defScope (topS 25)) (own := [("border", 4)]) (by decide +kernel)) (fun _ _ _ _ _ => (DG.name (i := 4) sc25.nd rfl (.inl rfl))) (fun _ _ _ _ _ => (DTs'.one (DT.pu (DT.not (DT.chain ch_le ch_le (DX.var (i := 1) rfl) (DX.var (i := 4) rfl) (DX.pu (DX.add (DX.var (i := 2) rfl) DX.int) rfl rfl))) rfl rfl))) (fun _ _ _ _ _ => (DX.pu (DX.var (i := 4) rfl) rfl rfl)) (by decide)) (by exact trivial) sc25.nd (i := 5) rfl rfl (by show 5 ∉ ([] : List Nat); decide)) rfl (by exact rfl)) <|
    DR.cons (Δ1 := ([.fz (tList (tTp [(tInt K), (tInt K)])) (fun (s : mwith_range_S) => s.1), .fz (tInt K) (fun (s : mwith_range_S) => s.2.1), .fz (tInt K) (fun (s : mwith_range_S) => s.2.2.1), .fz (tBool K) (fun (s : mwith_range_S) => s.2.2.2.1), .dead, .ow (oList (tInt K)) (fun (s : mwith_range_S) => (mwith_range_v_borders_6 s))] : Ctx K mwith_range_S)) (DS.conv (DS.ite (h := fun (s : mwith_range_S) => (mwith_range_h5 s)) (Δ1 := ([.fz (tList (tTp [(tInt K), (tInt K)])) (fun (s : mwith_range_S) => s.1), .fz (tInt K) (fun (s : mwith_range_S) => s.2.1), .fz (tInt K) (fun (s : mwith_range_S) => s.2.2.1), .fz (tBool K) (fun (s : mwith_range_S) => s.2.2.2.1), .dead, .ow (oList (tInt K)) (fun (s : mwith_range_S) => (mwith_range_v_borders_2 s))] : Ctx K mwith_range_S)) (Δa := ([.fz (tList (tTp [(tInt K), (tInt K)])) (fun (s : mwith_range_S) => s.1), .fz (tInt K) (fun (s : mwith_range_S) => s.2.1), .fz (tInt K) (fun (s : mwith_range_S) => s.2.2.1), .fz (tBool K) (fun (s : mwith_range_S) => s.2.2.2.1), .dead, .ow (oList (tInt K)) (fun (s : mwith_range_S) => (mwith_range_v_borders_4 s))] : Ctx K mwith_range_S)) (Δb := ([.fz (tList (tTp [(tInt K), (tInt K)])) (fun (s : mwith_range_S) => s.1), .fz (tInt K) (fun (s : mwith_range_S) => s.2.1), .fz (tInt K) (fun (s : mwith_range_S) => s.2.2.1), .fz (tBool K) (fun (s : mwith_range_S) => s.2.2.2.1), .dead, .ow (oList (tInt K)) (fun (s : mwith_range_S) => (mwith_range_v_borders_2 s))] : Ctx K mwith_range_S)) (DT.conv (DT.ne hr.rm dat_bool (DX.ofC (fm := mmarked_in_fm K) (τ := (tBool K)) (DC.call ((mmarked_in_ok T).mono (by decide)) hr T.g23 T.F23.kp T.b23 (DA.cons (DX.var (i := 0) rfl) (DA.cons (DX.sub (DX.var (i := 1) rfl) DX.int) DA.nil)) (.fz (.fz .nil)) (.fz (.fz .nil)) List.nodup_nil (by exact trivial)) rfl (fun _ => HEq.rfl)) (DX.var (i := 3) rfl) (hn := n64 (m := 1) rfl)) rfl rfl (by exact rfl)) (by exact trivial) (
      DN.cons (Δ1 := ([.fz (tList (tTp [(tInt K), (tInt K)])) (fun (s : mwith_range_S) => s.1), .fz (tInt K) (fun (s : mwith_range_S) => s.2.1), .fz (tInt K) (fun (s : mwith_range_S) => s.2.2.1), .fz (tBool K) (fun (s : mwith_range_S) => s.2.2.2.1), .dead, .ow (oList (tInt K)) (fun (s : mwith_range_S) => (mwith_range_v_borders_4 s))] : Ctx K mwith_range_S)) (DS.conv (DS.expr (DX.append (i := 5) (DX.var (i := 1) rfl) rfl rfl) (by exact ⟨⟨_, _, rfl⟩, trivial⟩)) rfl (by exact rfl)) <|
      DN.fin rfl
    ) (
      DN.fin rfl
    ) (.same (.same (.same (.same (.same (.ow .nil))))))) rfl rfl) <|
    DR.cons (Δ1 := ([.fz (tList (tTp [(tInt K), (tInt K)])) (fun (s : mwith_range_S) => s.1), .fz (tInt K) (fun (s : mwith_range_S) => s.2.1), .fz (tInt K) (fun (s : mwith_range_S) => s.2.2.1), .fz (tBool K) (fun (s : mwith_range_S) => s.2.2.2.1), .dead, .ow (oList (tInt K)) (fun (s : mwith_range_S) => (mwith_range_v_borders_10 s))] : Ctx K mwith_range_S)) (DS.conv (DS.ite (h := fun (s : mwith_range_S) => (mwith_range_h9 s)) (Δ1 := ([.fz (tList (tTp [(tInt K), (tInt K)])) (fun (s : mwith_range_S) => s.1), .fz (tInt K) (fun (s : mwith_range_S) => s.2.1), .fz (tInt K) (fun (s : mwith_range_S) => s.2.2.1), .fz (tBool K) (fun (s : mwith_range_S) => s.2.2.2.1), .dead, .ow (oList (tInt K)) (fun (s : mwith_range_S) => (mwith_range_v_borders_6 s))] : Ctx K mwith_range_S)) (Δa := ([.fz (tList (tTp [(tInt K), (tInt K)])) (fun (s : mwith_range_S) => s.1), .fz (tInt K) (fun (s : mwith_range_S) => s.2.1), .fz (tInt K) (fun (s : mwith_range_S) => s.2.2.1), .fz (tBool K) (fun (s : mwith_range_S) => s.2.2.2.1), .dead, .ow (oList (tInt K)) (fun (s : mwith_range_S) => (mwith_range_v_borders_8 s))] : Ctx K mwith_range_S)) (Δb := ([.fz (tList (tTp [(tInt K), (tInt K)])) (fun (s : mwith_range_S) => s.1), .fz (tInt K) (fun (s : mwith_range_S) => s.2.1), .fz (tInt K) (fun (s : mwith_range_S) => s.2.2.1), .fz (tBool K) (fun (s : mwith_range_S) => s.2.2.2.1), .dead, .ow (oList (tInt K)) (fun (s : mwith_range_S) => (mwith_range_v_borders_6 s))] : Ctx K mwith_range_S)) (DT.conv (DT.ne hr.rm dat_bool (DX.ofC (fm := mmarked_in_fm K) (τ := (tBool K)) (DC.call ((mmarked_in_ok T).mono (by decide)) hr T.g23 T.F23.kp T.b23 (DA.cons (DX.var (i := 0) rfl) (DA.cons (DX.add (DX.var (i := 2) rfl) DX.int) DA.nil)) (.fz (.fz .nil)) (.fz (.fz .nil)) List.nodup_nil (by exact trivial)) rfl (fun _ => HEq.rfl)) (DX.var (i := 3) rfl) (hn := n64 (m := 1) rfl)) rfl rfl (by exact rfl)) (by exact trivial) (
      DN.cons (Δ1 := ([.fz (tList (tTp [(tInt K), (tInt K)])) (fun (s : mwith_range_S) => s.1), .fz (tInt K) (fun (s : mwith_range_S) => s.2.1), .fz (tInt K) (fun (s : mwith_range_S) => s.2.2.1), .fz (tBool K) (fun (s : mwith_range_S) => s.2.2.2.1), .dead, .ow (oList (tInt K)) (fun (s : mwith_range_S) => (mwith_range_v_borders_8 s))] : Ctx K mwith_range_S)) (DS.conv (DS.expr (DX.append (i := 5) (DX.add (DX.var (i := 2) rfl) DX.int) rfl rfl) (by exact ⟨⟨_, _, rfl⟩, trivial⟩)) rfl (by exact rfl)) <|
      DN.fin rfl
    ) (
      DN.fin rfl
    ) (.same (.same (.same (.same (.same (.ow .nil))))))) rfl rfl) <|
    DR.retO (f := fun (s : mwith_range_S) => (mwith_range_c11 s)) (DO.borrowE 5 rfl (DO.ofC (fm := mfrom_borders_fm K) (ω := (oList (tTp [(tInt K), (tInt K)]))) (DC.call ((mfrom_borders_ok T).mono (by decide)) hr T.g14 T.F14.kp T.b14 (DA.cons (DX.ofL (DO.sorted ll_list T.n_sorted (DX.var (i := 5) rfl))) DA.nil) (.fz .nil) (.fz .nil) List.nodup_nil (by exact trivial)) rfl (fun _ => HEq.rfl)) (lfo_list (lf_tup (lf_cons lf_int (lf_cons lf_int lf_nil)))) (by show 5 ∉ ([] : List Nat); decide) (by exact trivial) (by exact trivial)) (OwnAll.all (by exact trivial)) (.fz (.fz (.fz (.fz .nil)))) ⟨rfl, fun _ => HEq.rfl, fun _ => rfl⟩
    ) (by exact fun _ => (hide_eq _).symm) (by exact fun _ h => h)
theorem mnext_state_ok (T : Tx K mg) : FnG P w K mg base CX0 3 T.a26 T.d26 ["state", "click"] (SpOf (mnext_state_fm K) mnext_state_p mnext_state) := by
  refine def_ok T.F26 sc26 rfl (by decide) fun cdv A outer s H E hr => ?_
  exact def_fin (Δ := ([.fz (tTp [(tInt K), (tList (tTp [(tInt K), (tInt K)])), (tOpt (tInt K))]) (fun (s : mnext_state_S) => s.1), .fz (tTp [(tStr K), (tInt K)]) (fun (s : mnext_state_S) => s.2.1), .dead, .dead, .dead, .dead, .dead, .dead] : Ctx K mnext_state_S)) (p := mnext_state_p) (fv := mnext_state) (
    DR.cons (Δ1 := ([.fz (tTp [(tInt K), (tList (tTp [(tInt K), (tInt K)])), (tOpt (tInt K))]) (fun (s : mnext_state_S) => s.1), .fz (tTp [(tStr K), (tInt K)]) (fun (s : mnext_state_S) => s.2.1), .fz (tInt K) (fun (s : mnext_state_S) => (mnext_state_t1 s).1), .fz (tList (tTp [(tInt K), (tInt K)])) (fun (s : mnext_state_S) => (mnext_state_t1 s).2.1), .fz (tOpt (tInt K)) (fun (s : mnext_state_S) => (mnext_state_t1 s).2.2), .dead, .dead, .dead] : Ctx K mnext_state_S)) (DS.conv (DS.asg (DX.conv (f' := fun (s : mnext_state_S) => (mnext_state_t1 s)) (DX.var (i := 0) rfl) rfl rfl (by exact rfl)) (DG.tup (DGs.cons (DG.name (i := 2) sc26.nd rfl (.inl rfl)) (DGs.cons (DG.name (i := 3) sc26.nd rfl (.inl rfl)) (DGs.one (DG.name (i := 4) sc26.nd rfl (.inl rfl)))))) (by exact trivial) (by show ∀ j ∈ ([2, 3, 4] : List Nat), j ∉ ([] : List Nat); decide)) rfl (by exact rfl)) <|
    DR.cons (Δ1 := ([.fz (tTp [(tInt K), (tList (tTp [(tInt K), (tInt K)])), (tOpt (tInt K))]) (fun (s : mnext_state_S) => s.1), .fz (tTp [(tStr K), (tInt K)]) (fun (s : mnext_state_S) => s.2.1), .fz (tInt K) (fun (s : mnext_state_S) => (mnext_state_t1 s).1), .fz (tList (tTp [(tInt K), (tInt K)])) (fun (s : mnext_state_S) => (mnext_state_t1 s).2.1), .fz (tOpt (tInt K)) (fun (s : mnext_state_S) => (mnext_state_t1 s).2.2), .fz (tStr K) (fun (s : mnext_state_S) => (mnext_state_t2 s).1), .fz (tInt K) (fun (s : mnext_state_S) => (mnext_state_t2 s).2), .dead] : Ctx K mnext_state_S)) (DS.conv (DS.asg (DX.conv (f' := fun (s : mnext_state_S) => (mnext_state_t2 s)) (DX.var (i := 1) rfl) rfl rfl (by exact rfl)) (DG.tup (DGs.cons (DG.name (i := 5) sc26.nd rfl (.inl rfl)) (DGs.one (DG.name (i := 6) sc26.nd rfl (.inl rfl))))) (by exact trivial) (by show ∀ j ∈ ([5, 6] : List Nat), j ∉ ([] : List Nat); decide)) rfl (by exact rfl)) <|
    DR.if1 (h := fun (s : mnext_state_S) => ((dfStr).eq (mnext_state_t2 s).1 ("click" : Str))) (Δ1 := ([.fz (tTp [(tInt K), (tList (tTp [(tInt K), (tInt K)])), (tOpt (tInt K))]) (fun (s : mnext_state_S) => s.1), .fz (tTp [(tStr K), (tInt K)]) (fun (s : mnext_state_S) => s.2.1), .fz (tInt K) (fun (s : mnext_state_S) => (mnext_state_t1 s).1), .fz (tList (tTp [(tInt K), (tInt K)])) (fun (s : mnext_state_S) => (mnext_state_t1 s).2.1), .fz (tOpt (tInt K)) (fun (s : mnext_state_S) => (mnext_state_t1 s).2.2), .fz (tStr K) (fun (s : mnext_state_S) => (mnext_state_t2 s).1), .fz (tInt K) (fun (s : mnext_state_S) => (mnext_state_t2 s).2), .dead] : Ctx K mnext_state_S)) (DT.conv (DT.eq hr.rm dat_str (DX.var (i := 5) rfl) (DX.glbS (by rfl) T.c_CLICK (h := ok_str _)) (hn := n64 (m := 1) rfl)) rfl rfl (by exact rfl)) (by exact trivial) (
      DR.ret (f := fun (s : mnext_state_S) => ((mnext_state_t1 s).1, (mnext_state_c3 s), (some (mnext_state_t2 s).2))) (DX.conv (DX.tup (DTs.cons (DX.var (i := 2) rfl) (DTs.cons (DX.ofL (DO.ofC (fm := mwith_click_fm K) (ω := (oList (tTp [(tInt K), (tInt K)]))) (DC.call ((mwith_click_ok T).mono (by decide)) hr T.g24 T.F24.kp T.b24 (DA.cons (DX.var (i := 3) rfl) (DA.cons (DX.var (i := 6) rfl) DA.nil)) (.fz (.fz .nil)) (.fz (.fz .nil)) List.nodup_nil (by exact trivial)) rfl (fun _ => HEq.rfl))) (DTs.one (DX.someO nv_int (DX.var (i := 6) rfl))))) (hl := (by decide : 3 ≤ sizeLine))) rfl rfl (by exact rfl)) (OwnAll.all (by exact trivial)) (.fz (.fz .nil)) ⟨rfl, fun _ => HEq.rfl, fun _ => rfl⟩
    ) (
      DR.cons (Δ1 := ([.fz (tTp [(tInt K), (tList (tTp [(tInt K), (tInt K)])), (tOpt (tInt K))]) (fun (s : mnext_state_S) => s.1), .fz (tTp [(tStr K), (tInt K)]) (fun (s : mnext_state_S) => s.2.1), .fz (tInt K) (fun (s : mnext_state_S) => (mnext_state_t1 s).1), .fz (tList (tTp [(tInt K), (tInt K)])) (fun (s : mnext_state_S) => (mnext_state_t1 s).2.1), .fz (tOpt (tInt K)) (fun (s : mnext_state_S) => (mnext_state_t1 s).2.2), .fz (tStr K) (fun (s : mnext_state_S) => (mnext_state_t2 s).1), .fz (tInt K) (fun (s : mnext_state_S) => (mnext_state_t2 s).2), .fz (tBool K) (fun (s : mnext_state_S) => (mnext_state_c4 s))] : Ctx K mnext_state_S)) (DS.conv (DS.asg (DX.ofC (fm := mmarked_in_fm K) (τ := (tBool K)) (DC.call ((mmarked_in_ok T).mono (by decide)) hr T.g23 T.F23.kp T.b23 (DA.cons (DX.var (i := 3) rfl) (DA.cons (DX.getO (τ := (tInt K)) (0 : Int) (DX.var (i := 4) rfl)) DA.nil)) (.fz (.fz .nil)) (.fz (.fz .nil)) List.nodup_nil (by exact trivial)) rfl (fun _ => HEq.rfl)) (DG.name (i := 7) sc26.nd rfl (.inl rfl)) (by exact trivial) (by show ∀ j ∈ ([7] : List Nat), j ∉ ([] : List Nat); decide)) rfl (by exact rfl)) <|
      DR.ret (f := fun (s : mnext_state_S) => ((mnext_state_t1 s).1, (mnext_state_c5 s), (mnext_state_t1 s).2.2)) (DX.conv (DX.tup (DTs.cons (DX.var (i := 2) rfl) (DTs.cons (DX.ofL (DO.ofC (fm := mwith_range_fm K) (ω := (oList (tTp [(tInt K), (tInt K)]))) (DC.call ((mwith_range_ok T).mono (by decide)) hr T.g25 T.F25.kp T.b25 (DA.cons (DX.var (i := 3) rfl) (DA.cons (DX.min2 T.n_min (DX.getO (τ := (tInt K)) (0 : Int) (DX.var (i := 4) rfl)) (DX.var (i := 6) rfl)) (DA.cons (DX.max2 T.n_max (DX.getO (τ := (tInt K)) (0 : Int) (DX.var (i := 4) rfl)) (DX.var (i := 6) rfl)) (DA.cons (DX.var (i := 7) rfl) DA.nil)))) (.fz (.fz (.fz (.fz .nil)))) (.fz (.fz (.fz (.fz .nil)))) List.nodup_nil (by exact trivial)) rfl (fun _ => HEq.rfl))) (DTs.one (DX.var (i := 4) rfl)))) (hl := (by decide : 3 ≤ sizeLine))) rfl rfl (by exact rfl)) (OwnAll.all (by exact trivial)) (.fz (.fz .nil)) ⟨rfl, fun _ => HEq.rfl, fun _ => rfl⟩
    )
    ) (by exact fun _ => (hide_eq _).symm) (by exact fun _ h => h)
theorem mplay_ok (T : Tx K mg) : FnG P w K mg base CX0 4 T.a27 T.d27 ["state", "clicks"] (SpOf (mplay_fm K) mplay_p mplay) := by
  refine def_ok T.F27 sc27 rfl (by decide) fun cdv A outer s H E hr => ?_
  exact def_fin (Δ := ([.fz (tTp [(tInt K), (tList (tTp [(tInt K), (tInt K)])), (tOpt (tInt K))]) (fun (s : mplay_S) => s.1), .fz (tList (tTp [(tStr K), (tInt K)])) (fun (s : mplay_S) => s.2.1), .dead, .dead, .dead, .dead, .dead] : Ctx K mplay_S)) (p := mplay_p) (fv := mplay) (
    DR.cons (Δ1 := ([.fz (tTp [(tInt K), (tList (tTp [(tInt K), (tInt K)])), (tOpt (tInt K))]) (fun (s : mplay_S) => s.1), .fz (tList (tTp [(tStr K), (tInt K)])) (fun (s : mplay_S) => s.2.1), .fz (tInt K) (fun (s : mplay_S) => (mplay_t1 s).1), .fz (tList (tTp [(tInt K), (tInt K)])) (fun (s : mplay_S) => (mplay_t1 s).2.1), .fz (tOpt (tInt K)) (fun (s : mplay_S) => (mplay_t1 s).2.2), .dead, .dead] : Ctx K mplay_S)) (DS.conv (DS.asg (DX.conv (f' := fun (s : mplay_S) => (mplay_t1 s)) (DX.var (i := 0) rfl) rfl rfl (by exact rfl)) (DG.tup (DGs.cons (DG.name (i := 2) sc27.nd rfl (.inl rfl)) (DGs.cons (DG.name (i := 3) sc27.nd rfl (.inl rfl)) (DGs.one (DG.name (i := 4) sc27.nd rfl (.inl rfl)))))) (by exact trivial) (by show ∀ j ∈ ([2, 3, 4] : List Nat), j ∉ ([] : List Nat); decide)) rfl (by exact rfl)) <|
    DR.cons (Δ1 := ([.fz (tTp [(tInt K), (tList (tTp [(tInt K), (tInt K)])), (tOpt (tInt K))]) (fun (s : mplay_S) => s.1), .fz (tList (tTp [(tStr K), (tInt K)])) (fun (s : mplay_S) => s.2.1), .fz (tInt K) (fun (s : mplay_S) => (mplay_t1 s).1), .fz (tList (tTp [(tInt K), (tInt K)])) (fun (s : mplay_S) => (mplay_t1 s).2.1), .fz (tOpt (tInt K)) (fun (s : mplay_S) => (mplay_t1 s).2.2), .ow (oList (tTp [(tInt K), (tList (tTp [(tInt K), (tInt K)])), (tOpt (tInt K))])) (fun (s : mplay_S) => (mplay_v_states_2 s)), .dead] : Ctx K mplay_S)) (DS.conv (DS.setO (DO.lst (τ := (tTp [(tInt K), (tList (tTp [(tInt K), (tInt K)])), (tOpt (tInt K))])) (DL.cons (DX.tup (DTs.cons (DX.var (i := 2) rfl) (DTs.cons (DX.ofL (DO.list ll_list T.n_list (DX.var (i := 3) rfl))) (DTs.one (DX.var (i := 4) rfl)))) (hl := (by decide : 3 ≤ sizeLine))) DL.nil) (hl := fun _ => (by decide : 1 ≤ sizeLine))) (by exact trivial) sc27.nd (i := 5) rfl (.inl rfl) (by show 5 ∉ ([] : List Nat); decide)) rfl (by exact rfl)) <|
    DR.cons (Δ1 := ([.fz (tTp [(tInt K), (tList (tTp [(tInt K), (tInt K)])), (tOpt (tInt K))]) (fun (s : mplay_S) => s.1), .fz (tList (tTp [(tStr K), (tInt K)])) (fun (s : mplay_S) => s.2.1), .fz (tInt K) (fun (s : mplay_S) => (mplay_t1 s).1), .fz (tList (tTp [(tInt K), (tInt K)])) (fun (s : mplay_S) => (mplay_t1 s).2.1), .fz (tOpt (tInt K)) (fun (s : mplay_S) => (mplay_t1 s).2.2), .ow (oList (tTp [(tInt K), (tList (tTp [(tInt K), (tInt K)])), (tOpt (tInt K))])) (fun (s : mplay_S) => (mplay_L3 s)), .dead] : Ctx K mplay_S)) (DS.conv (DS.forH (S := mplay_S) (M := mplay_L3M) (τ := (tTp [(tStr K), (tInt K)])) (init := fun s => mplay_L3i s) (step := fun s => mplay_L3s s) (fx := fun s => mplay_L3x s) (Δ1 := ([.fz (tTp [(tInt K), (tList (tTp [(tInt K), (tInt K)])), (tOpt (tInt K))]) (fun (s : mplay_S) => s.1), .fz (tList (tTp [(tStr K), (tInt K)])) (fun (s : mplay_S) => s.2.1), .fz (tInt K) (fun (s : mplay_S) => (mplay_t1 s).1), .fz (tList (tTp [(tInt K), (tInt K)])) (fun (s : mplay_S) => (mplay_t1 s).2.1), .fz (tOpt (tInt K)) (fun (s : mplay_S) => (mplay_t1 s).2.2), .ow (oList (tTp [(tInt K), (tList (tTp [(tInt K), (tInt K)])), (tOpt (tInt K))])) (fun (s : mplay_S) => (mplay_v_states_2 s)), .dead] : Ctx K mplay_S)) (Δl := ([.fz (tTp [(tInt K), (tList (tTp [(tInt K), (tInt K)])), (tOpt (tInt K))]) (fun (s : (mplay_S × mplay_L3M)) => s.1.1), .fz (tList (tTp [(tStr K), (tInt K)])) (fun (s : (mplay_S × mplay_L3M)) => s.1.2.1), .fz (tInt K) (fun (s : (mplay_S × mplay_L3M)) => (mplay_t1 s.1).1), .fz (tList (tTp [(tInt K), (tInt K)])) (fun (s : (mplay_S × mplay_L3M)) => (mplay_t1 s.1).2.1), .fz (tOpt (tInt K)) (fun (s : (mplay_S × mplay_L3M)) => (mplay_t1 s.1).2.2), .ow (oList (tTp [(tInt K), (tList (tTp [(tInt K), (tInt K)])), (tOpt (tInt K))])) (fun (s : (mplay_S × mplay_L3M)) => s.2), .dead] : Ctx K (mplay_S × mplay_L3M))) (Δb := ([.fz (tTp [(tInt K), (tList (tTp [(tInt K), (tInt K)])), (tOpt (tInt K))]) (fun (s : mplay_L3T) => s.1.1.1), .fz (tList (tTp [(tStr K), (tInt K)])) (fun (s : mplay_L3T) => s.1.1.2.1), .fz (tInt K) (fun (s : mplay_L3T) => (mplay_t1 s.1.1).1), .fz (tList (tTp [(tInt K), (tInt K)])) (fun (s : mplay_L3T) => (mplay_t1 s.1.1).2.1), .fz (tOpt (tInt K)) (fun (s : mplay_L3T) => (mplay_t1 s.1.1).2.2), .ow (oList (tTp [(tInt K), (tList (tTp [(tInt K), (tInt K)])), (tOpt (tInt K))])) (fun (s : mplay_L3T) => s.1.2), .fz (tTp [(tStr K), (tInt K)]) (fun (s : mplay_L3T) => s.2)] : Ctx K mplay_L3T)) (Δe := ([.fz (tTp [(tInt K), (tList (tTp [(tInt K), (tInt K)])), (tOpt (tInt K))]) (fun (s : mplay_L3T) => s.1.1.1), .fz (tList (tTp [(tStr K), (tInt K)])) (fun (s : mplay_L3T) => s.1.1.2.1), .fz (tInt K) (fun (s : mplay_L3T) => (mplay_t1 s.1.1).1), .fz (tList (tTp [(tInt K), (tInt K)])) (fun (s : mplay_L3T) => (mplay_t1 s.1.1).2.1), .fz (tOpt (tInt K)) (fun (s : mplay_L3T) => (mplay_t1 s.1.1).2.2), .ow (oList (tTp [(tInt K), (tList (tTp [(tInt K), (tInt K)])), (tOpt (tInt K))])) (fun (s : mplay_L3T) => (mplay_v_states_5 s)), .fz (tTp [(tStr K), (tInt K)]) (fun (s : mplay_L3T) => s.2)] : Ctx K mplay_L3T)) (DI.conv (DI.list ll_list (DX.var (i := 1) rfl)) rfl rfl (by exact rfl)) (by exact trivial) (.keep (.keep (.keep (.keep (.keep (.ow (ω := (oList (tTp [(tInt K), (tList (tTp [(tInt K), (tInt K)])), (tOpt (tInt K))]))) (fun (m : mplay_L3M) => m) (fun _ => by rfl) (.dead .nil))))))) (DG.name (i := 6) sc27.nd rfl (.inl rfl)) (by show ∀ j ∈ ([6] : List Nat), j ∉ ([] : List Nat); decide) (
      DN.cons (Δ1 := ([.fz (tTp [(tInt K), (tList (tTp [(tInt K), (tInt K)])), (tOpt (tInt K))]) (fun (s : mplay_L3T) => s.1.1.1), .fz (tList (tTp [(tStr K), (tInt K)])) (fun (s : mplay_L3T) => s.1.1.2.1), .fz (tInt K) (fun (s : mplay_L3T) => (mplay_t1 s.1.1).1), .fz (tList (tTp [(tInt K), (tInt K)])) (fun (s : mplay_L3T) => (mplay_t1 s.1.1).2.1), .fz (tOpt (tInt K)) (fun (s : mplay_L3T) => (mplay_t1 s.1.1).2.2), .ow (oList (tTp [(tInt K), (tList (tTp [(tInt K), (tInt K)])), (tOpt (tInt K))])) (fun (s : mplay_L3T) => (mplay_v_states_5 s)), .fz (tTp [(tStr K), (tInt K)]) (fun (s : mplay_L3T) => s.2)] : Ctx K mplay_L3T)) (DS.conv (DS.expr (DX.append (i := 5) (DX.ofC (fm := mnext_state_fm K) (τ := (tTp [(tInt K), (tList (tTp [(tInt K), (tInt K)])), (tOpt (tInt K))])) (DC.call ((mnext_state_ok T).mono (by decide)) hr T.g26 T.F26.kp T.b26 (DA.cons (DX.ixOwn (i := 5) (τ := (tTp [(tInt K), (tList (tTp [(tInt K), (tInt K)])), (tOpt (tInt K))])) ((0 : Int), ([] : List (Int × Int)), (none : Option Int)) rfl (DX.pu (DX.neg DX.int) rfl rfl)) (DA.cons (DX.var (i := 6) rfl) DA.nil)) (.fz (.fz .nil)) (.fz (.fz .nil)) List.nodup_nil (by exact trivial)) rfl (fun _ => HEq.rfl)) rfl rfl) (by exact ⟨⟨_, _, rfl⟩, trivial⟩)) rfl (by exact rfl)) <|
      DN.fin rfl
    ) (.keep (sl := .fz (tTp [(tInt K), (tList (tTp [(tInt K), (tInt K)])), (tOpt (tInt K))]) (fun (s : mplay_S) => s.1)) (.keep (sl := .fz (tList (tTp [(tStr K), (tInt K)])) (fun (s : mplay_S) => s.2.1)) (.keep (sl := .fz (tInt K) (fun (s : mplay_S) => (mplay_t1 s).1)) (.keep (sl := .fz (tList (tTp [(tInt K), (tInt K)])) (fun (s : mplay_S) => (mplay_t1 s).2.1)) (.keep (sl := .fz (tOpt (tInt K)) (fun (s : mplay_S) => (mplay_t1 s).2.2)) (.ow (ω := (oList (tTp [(tInt K), (tList (tTp [(tInt K), (tInt K)])), (tOpt (tInt K))]))) (pr := fun (m : mplay_L3M) => m) (fun _ => by rfl) (.dead .nil)))))))) rfl rfl) <|
    DR.retN (f := fun (s : mplay_S) => (mplay_L3 s)) (i := 5) rfl (by show 5 ∉ ([] : List Nat); decide) (.fz (.fz .nil)) ⟨rfl, fun _ => HEq.rfl, fun _ => rfl⟩
    ) (by exact fun _ => (hide_eq _).symm) (by exact fun _ h => h)
theorem mstates_along_ok (T : Tx K mg) : FnG P w K mg base CX0 7 T.a28 T.d28 ["state", "clicks"] (SpOf (mstates_along_fm K) mstates_along_p mstates_along) := by
  refine def_ok T.F28 sc28 rfl (by decide) fun cdv A outer s H E hr => ?_
  exact def_fin (Δ := ([.fz (tTp [(tInt K), (tList (tTp [(tInt K), (tInt K)])), (tOpt (tInt K))]) (fun (s : mstates_along_S) => s.1), .fz (tList (tTp [(tStr K), (tInt K)])) (fun (s : mstates_along_S) => s.2.1)] : Ctx K mstates_along_S)) (p := mstates_along_p) (fv := mstates_along) (
    DR.cons (Δ1 := ([.fz (tTp [(tInt K), (tList (tTp [(tInt K), (tInt K)])), (tOpt (tInt K))]) (fun (s : mstates_along_S) => s.1), .fz (tList (tTp [(tStr K), (tInt K)])) (fun (s : mstates_along_S) => s.2.1)] : Ctx K mstates_along_S)) (DS.conv (DS.expr (DX.ofC (fm := mcheck_state_fm K) (τ := (tNone K)) (DC.call ((mcheck_state_ok T).mono (by decide)) hr T.g22 T.F22.kp T.b22 (DA.cons (DX.var (i := 0) rfl) DA.nil) (.fz .nil) (.fz .nil) List.nodup_nil (by exact trivial)) rfl (fun _ => HEq.rfl)) (by exact trivial)) rfl (by exact rfl)) <|
    DR.cons (Δ1 := ([.fz (tTp [(tInt K), (tList (tTp [(tInt K), (tInt K)])), (tOpt (tInt K))]) (fun (s : mstates_along_S) => s.1), .fz (tList (tTp [(tStr K), (tInt K)])) (fun (s : mstates_along_S) => s.2.1)] : Ctx K mstates_along_S)) (DS.conv (DS.expr (DX.ofC (fm := mcheck_clicks_fm K) (τ := (tNone K)) (DC.call ((mcheck_clicks_ok T).mono (by decide)) hr T.g19 T.F19.kp T.b19 (DA.cons (DX.tix (k := 0) (DX.var (i := 0) rfl) .zero) (DA.cons (DX.var (i := 1) rfl) DA.nil)) (.fz (.fz .nil)) (.fz (.fz .nil)) List.nodup_nil (by exact trivial)) rfl (fun _ => HEq.rfl)) (by exact trivial)) rfl (by exact rfl)) <|
    DR.cons (Δ1 := ([.fz (tTp [(tInt K), (tList (tTp [(tInt K), (tInt K)])), (tOpt (tInt K))]) (fun (s : mstates_along_S) => s.1), .fz (tList (tTp [(tStr K), (tInt K)])) (fun (s : mstates_along_S) => s.2.1)] : Ctx K mstates_along_S)) (DS.conv (DS.expr (DX.ofC (fm := mcheck_can_begin_fm K) (τ := (tNone K)) (DC.call ((mcheck_can_begin_ok T).mono (by decide)) hr T.g20 T.F20.kp T.b20 (DA.cons (DX.var (i := 1) rfl) (DA.cons (DX.tix (k := 2) (DX.var (i := 0) rfl) (.succ (.succ .last))) DA.nil)) (.fz (.fz .nil)) (.fz (.fz .nil)) List.nodup_nil (by exact trivial)) rfl (fun _ => HEq.rfl)) (by exact trivial)) rfl (by exact rfl)) <|
    DR.retO (f := fun (s : mstates_along_S) => (mstates_along_c4 s)) (DO.ofC (fm := mplay_fm K) (ω := (oList (tTp [(tInt K), (tList (tTp [(tInt K), (tInt K)])), (tOpt (tInt K))]))) (DC.call ((mplay_ok T).mono (by decide)) hr T.g27 T.F27.kp T.b27 (DA.cons (DX.var (i := 0) rfl) (DA.cons (DX.var (i := 1) rfl) DA.nil)) (.fz (.fz .nil)) (.fz (.fz .nil)) List.nodup_nil (by exact trivial)) rfl (fun _ => HEq.rfl)) (OwnAll.all (by exact trivial)) (.fz (.fz .nil)) ⟨rfl, fun _ => HEq.rfl, fun _ => rfl⟩
    ) (by exact fun _ => (hide_eq _).symm) (by exact fun _ h => h)
theorem mstate_after_ok (T : Tx K mg) : FnG P w K mg base CX0 8 T.a29 T.d29 ["state", "clicks"] (SpOf (mstate_after_fm K) mstate_after_p mstate_after) := by
  refine def_ok T.F29 sc29 rfl (by decide) fun cdv A outer s H E hr => ?_
  exact def_fin (Δ := ([.fz (tTp [(tInt K), (tList (tTp [(tInt K), (tInt K)])), (tOpt (tInt K))]) (fun (s : mstate_after_S) => s.1), .fz (tList (tTp [(tStr K), (tInt K)])) (fun (s : mstate_after_S) => s.2.1)] : Ctx K mstate_after_S)) (p := mstate_after_p) (fv := mstate_after) (
    DR.ret (f := fun (s : mstate_after_S) => (ixI ((0 : Int), ([] : List (Int × Int)), (none : Option Int)) (mstate_after_c1 s) (-(1 : Int)))) (DX.ix (ll_list (τ := (tTp [(tInt K), (tList (tTp [(tInt K), (tInt K)])), (tOpt (tInt K))]))) ((0 : Int), ([] : List (Int × Int)), (none : Option Int)) (DX.ofL (DO.ofC (fm := mstates_along_fm K) (ω := (oList (tTp [(tInt K), (tList (tTp [(tInt K), (tInt K)])), (tOpt (tInt K))]))) (DC.call ((mstates_along_ok T).mono (by decide)) hr T.g28 T.F28.kp T.b28 (DA.cons (DX.var (i := 0) rfl) (DA.cons (DX.var (i := 1) rfl) DA.nil)) (.fz (.fz .nil)) (.fz (.fz .nil)) List.nodup_nil (by exact trivial)) rfl (fun _ => HEq.rfl))) (DX.neg DX.int)) (OwnAll.all (by exact trivial)) (.fz (.fz .nil)) ⟨rfl, fun _ => HEq.rfl, fun _ => rfl⟩
    ) (by exact fun _ => (hide_eq _).symm) (by exact fun _ h => h)
theorem m_law_pieces_right_ok (T : Tx K mg) : FnG P w K mg base CX0 9 T.a39 T.d39 ["_law_source_here", "_law_start_here", "_law_pressed_here"] (SpOf (m_law_pieces_right_fm K) m_law_pieces_right_p m_law_pieces_right) := by
  refine def_ok T.F39 sc39 rfl (by decide) fun cdv A outer s H E hr => ?_
  exact def_fin (Δ := ([.ow (oList (tInt K)) (fun (s : m_law_pieces_right_S) => s.1), .fz (tTp [(tInt K), (tList (tTp [(tInt K), (tInt K)])), (tOpt (tInt K))]) (fun (s : m_law_pieces_right_S) => s.2.1), .fz (tList (tTp [(tStr K), (tInt K)])) (fun (s : m_law_pieces_right_S) => s.2.2.1), .dead, .dead, .dead, .dead] : Ctx K m_law_pieces_right_S)) (p := m_law_pieces_right_p) (fv := m_law_pieces_right) (
    DR.cons (Δ1 := ([.ow (oList (tInt K)) (fun (s : m_law_pieces_right_S) => s.1), .fz (tTp [(tInt K), (tList (tTp [(tInt K), (tInt K)])), (tOpt (tInt K))]) (fun (s : m_law_pieces_right_S) => s.2.1), .fz (tList (tTp [(tStr K), (tInt K)])) (fun (s : m_law_pieces_right_S) => s.2.2.1), .fz (tTp [(tInt K), (tList (tTp [(tInt K), (tInt K)])), (tOpt (tInt K))]) (fun (s : m_law_pieces_right_S) => s.2.1), .ow (oList (tTp [(tInt K), (tList (tTp [(tInt K), (tInt K)])), (tOpt (tInt K))])) (fun (s : m_law_pieces_right_S) => (m_law_pieces_right_v_along_1 s)), .fz (tInt K) (fun (s : m_law_pieces_right_S) => (m_law_pieces_right_v_at_2 s)), .dead] : Ctx K m_law_pieces_right_S)) (DS.conv (DS.par3 (DX.var (i := 1) rfl) (DO.lst (τ := (tTp [(tInt K), (tList (tTp [(tInt K), (tInt K)])), (tOpt (tInt K))])) (DL.cons (DX.tup (DTs.cons (DX.tix (k := 0) (DX.var (i := 1) rfl) .zero) (DTs.cons (DX.ofL (DO.list ll_list T.n_list (DX.tix (k := 1) (DX.var (i := 1) rfl) (.succ .zero)))) (DTs.one (DX.tix (k := 2) (DX.var (i := 1) rfl) (.succ (.succ .last)))))) (hl := (by decide : 3 ≤ sizeLine))) DL.nil) (hl := fun _ => (by decide : 1 ≤ sizeLine))) DX.int (by exact trivial) sc39.nd (i := 3) (j := 4) (l := 5) rfl rfl rfl (by decide) (by decide) (by decide) rfl rfl rfl (by show 3 ∉ ([0] : List Nat); decide) (by show 4 ∉ ([0] : List Nat); decide) (by show 5 ∉ ([0] : List Nat); decide)) rfl (by exact rfl)) <|
    DR.cons (Δ1 := ([.ow (oList (tInt K)) (fun (s : m_law_pieces_right_S) => (m_law_pieces_right_L3 s).1), .fz (tTp [(tInt K), (tList (tTp [(tInt K), (tInt K)])), (tOpt (tInt K))]) (fun (s : m_law_pieces_right_S) => s.2.1), .fz (tList (tTp [(tStr K), (tInt K)])) (fun (s : m_law_pieces_right_S) => s.2.2.1), .fz (tTp [(tInt K), (tList (tTp [(tInt K), (tInt K)])), (tOpt (tInt K))]) (fun (s : m_law_pieces_right_S) => (m_law_pieces_right_L3 s).2.1), .ow (oList (tTp [(tInt K), (tList (tTp [(tInt K), (tInt K)])), (tOpt (tInt K))])) (fun (s : m_law_pieces_right_S) => (m_law_pieces_right_L3 s).2.2.1), .fz (tInt K) (fun (s : m_law_pieces_right_S) => (m_law_pieces_right_L3 s).2.2.2), .dead] : Ctx K m_law_pieces_right_S)) (DS.conv (DS.whileH (S := m_law_pieces_right_S) (M := m_law_pieces_right_L3M) (init := fun s => m_law_pieces_right_L3i s) (step := fun s => m_law_pieces_right_L3s s) (h := fun s => m_law_pieces_right_L3h s) (Δl := ([.ow (oList (tInt K)) (fun (s : (m_law_pieces_right_S × m_law_pieces_right_L3M)) => s.2.1), .fz (tTp [(tInt K), (tList (tTp [(tInt K), (tInt K)])), (tOpt (tInt K))]) (fun (s : (m_law_pieces_right_S × m_law_pieces_right_L3M)) => s.1.2.1), .fz (tList (tTp [(tStr K), (tInt K)])) (fun (s : (m_law_pieces_right_S × m_law_pieces_right_L3M)) => s.1.2.2.1), .fz (tTp [(tInt K), (tList (tTp [(tInt K), (tInt K)])), (tOpt (tInt K))]) (fun (s : (m_law_pieces_right_S × m_law_pieces_right_L3M)) => s.2.2.1), .ow (oList (tTp [(tInt K), (tList (tTp [(tInt K), (tInt K)])), (tOpt (tInt K))])) (fun (s : (m_law_pieces_right_S × m_law_pieces_right_L3M)) => s.2.2.2.1), .fz (tInt K) (fun (s : (m_law_pieces_right_S × m_law_pieces_right_L3M)) => s.2.2.2.2), .dead] : Ctx K (m_law_pieces_right_S × m_law_pieces_right_L3M))) (Δe := ([.ow (oList (tInt K)) (fun (s : m_law_pieces_right_L3T) => (m_law_pieces_right_c4 s).1), .fz (tTp [(tInt K), (tList (tTp [(tInt K), (tInt K)])), (tOpt (tInt K))]) (fun (s : m_law_pieces_right_L3T) => s.1.1.2.1), .fz (tList (tTp [(tStr K), (tInt K)])) (fun (s : m_law_pieces_right_L3T) => s.1.1.2.2.1), .fz (tTp [(tInt K), (tList (tTp [(tInt K), (tInt K)])), (tOpt (tInt K))]) (fun (s : m_law_pieces_right_L3T) => (m_law_pieces_right_c8 s)), .ow (oList (tTp [(tInt K), (tList (tTp [(tInt K), (tInt K)])), (tOpt (tInt K))])) (fun (s : m_law_pieces_right_L3T) => (m_law_pieces_right_v_along_7 s)), .fz (tInt K) (fun (s : m_law_pieces_right_L3T) => (m_law_pieces_right_v_at_9 s)), .fz (tInt K) (fun (s : m_law_pieces_right_L3T) => (m_law_pieces_right_v_size_here_5 s))] : Ctx K m_law_pieces_right_L3T)) (.ow (ω := (oList (tInt K))) (fun (m : m_law_pieces_right_L3M) => m.1) (fun _ => by rfl) (.keep (.keep (.fz (τ := (tTp [(tInt K), (tList (tTp [(tInt K), (tInt K)])), (tOpt (tInt K))])) (fun (m : m_law_pieces_right_L3M) => m.2.1) (fun _ => by rfl) (.ow (ω := (oList (tTp [(tInt K), (tList (tTp [(tInt K), (tInt K)])), (tOpt (tInt K))]))) (fun (m : m_law_pieces_right_L3M) => m.2.2.1) (fun _ => by rfl) (.fz (τ := (tInt K)) (fun (m : m_law_pieces_right_L3M) => m.2.2.2) (fun _ => by rfl) (.dead .nil))))))) (DT.conv (DT.lt (DX.var (i := 5) rfl) (DX.len ll_list T.n_len (DX.var (i := 2) rfl))) rfl rfl (by exact rfl)) (
      DN.cons (Δ1 := ([.ow (oList (tInt K)) (fun (s : m_law_pieces_right_L3T) => (m_law_pieces_right_c4 s).1), .fz (tTp [(tInt K), (tList (tTp [(tInt K), (tInt K)])), (tOpt (tInt K))]) (fun (s : m_law_pieces_right_L3T) => s.1.1.2.1), .fz (tList (tTp [(tStr K), (tInt K)])) (fun (s : m_law_pieces_right_L3T) => s.1.1.2.2.1), .fz (tTp [(tInt K), (tList (tTp [(tInt K), (tInt K)])), (tOpt (tInt K))]) (fun (s : m_law_pieces_right_L3T) => s.1.2.2.1), .ow (oList (tTp [(tInt K), (tList (tTp [(tInt K), (tInt K)])), (tOpt (tInt K))])) (fun (s : m_law_pieces_right_L3T) => s.1.2.2.2.1), .fz (tInt K) (fun (s : m_law_pieces_right_L3T) => s.1.2.2.2.2), .fz (tInt K) (fun (s : m_law_pieces_right_L3T) => (m_law_pieces_right_v_size_here_5 s))] : Ctx K m_law_pieces_right_L3T)) (DS.conv (DS.asg (DX.add DX.int (DX.ofC (fm := m_law_draw_fm K) (τ := (tInt K)) (DC.call ((m_law_draw_ok T).mono (by decide)) hr T.g32 T.F32.kp T.b32 (DA.mu (j := 0) rfl (DA.cons DX.int DA.nil)) (.mu rfl (.fz .nil)) (.mu (.fz .nil)) nd1 (by exact ⟨⟨_, _, rfl⟩, trivial⟩)) rfl (fun _ => HEq.rfl))) (DG.name (i := 6) sc39.nd rfl (.inl rfl)) (by exact ⟨⟨_, _, rfl⟩, trivial⟩) (by show ∀ j ∈ ([6] : List Nat), j ∉ ([0] : List Nat); decide)) rfl (by exact rfl)) <|
      DN.cons (Δ1 := ([.ow (oList (tInt K)) (fun (s : m_law_pieces_right_L3T) => (m_law_pieces_right_c4 s).1), .fz (tTp [(tInt K), (tList (tTp [(tInt K), (tInt K)])), (tOpt (tInt K))]) (fun (s : m_law_pieces_right_L3T) => s.1.1.2.1), .fz (tList (tTp [(tStr K), (tInt K)])) (fun (s : m_law_pieces_right_L3T) => s.1.1.2.2.1), .fz (tTp [(tInt K), (tList (tTp [(tInt K), (tInt K)])), (tOpt (tInt K))]) (fun (s : m_law_pieces_right_L3T) => s.1.2.2.1), .ow (oList (tTp [(tInt K), (tList (tTp [(tInt K), (tInt K)])), (tOpt (tInt K))])) (fun (s : m_law_pieces_right_L3T) => (m_law_pieces_right_v_along_7 s)), .fz (tInt K) (fun (s : m_law_pieces_right_L3T) => s.1.2.2.2.2), .fz (tInt K) (fun (s : m_law_pieces_right_L3T) => (m_law_pieces_right_v_size_here_5 s))] : Ctx K m_law_pieces_right_L3T)) (DS.conv (DS.expr (DX.extend (i := 4) (DX.ofL (DO.sl ll_list (DX.ofL (DO.ofC (fm := mstates_along_fm K) (ω := (oList (tTp [(tInt K), (tList (tTp [(tInt K), (tInt K)])), (tOpt (tInt K))]))) (DC.call ((mstates_along_ok T).mono (by decide)) hr T.g28 T.F28.kp T.b28 (DA.cons (DX.var (i := 3) rfl) (DA.cons (DX.ofL (DO.sl ll_list (DX.var (i := 2) rfl) (DPo.some (DX.var (i := 5) rfl)) (DPo.some (DX.add (DX.var (i := 5) rfl) (DX.var (i := 6) rfl))))) DA.nil)) (.fz (.fz .nil)) (.fz (.fz .nil)) List.nodup_nil (by exact trivial)) rfl (fun _ => HEq.rfl))) (DPo.some DX.int) DPo.none)) rfl rfl) (by exact ⟨⟨_, _, rfl⟩, trivial⟩)) rfl (by exact rfl)) <|
      DN.cons (Δ1 := ([.ow (oList (tInt K)) (fun (s : m_law_pieces_right_L3T) => (m_law_pieces_right_c4 s).1), .fz (tTp [(tInt K), (tList (tTp [(tInt K), (tInt K)])), (tOpt (tInt K))]) (fun (s : m_law_pieces_right_L3T) => s.1.1.2.1), .fz (tList (tTp [(tStr K), (tInt K)])) (fun (s : m_law_pieces_right_L3T) => s.1.1.2.2.1), .fz (tTp [(tInt K), (tList (tTp [(tInt K), (tInt K)])), (tOpt (tInt K))]) (fun (s : m_law_pieces_right_L3T) => (m_law_pieces_right_c8 s)), .ow (oList (tTp [(tInt K), (tList (tTp [(tInt K), (tInt K)])), (tOpt (tInt K))])) (fun (s : m_law_pieces_right_L3T) => (m_law_pieces_right_v_along_7 s)), .fz (tInt K) (fun (s : m_law_pieces_right_L3T) => s.1.2.2.2.2), .fz (tInt K) (fun (s : m_law_pieces_right_L3T) => (m_law_pieces_right_v_size_here_5 s))] : Ctx K m_law_pieces_right_L3T)) (DS.conv (DS.asg (DX.ofC (fm := mstate_after_fm K) (τ := (tTp [(tInt K), (tList (tTp [(tInt K), (tInt K)])), (tOpt (tInt K))])) (DC.call ((mstate_after_ok T).mono (by decide)) hr T.g29 T.F29.kp T.b29 (DA.cons (DX.var (i := 3) rfl) (DA.cons (DX.ofL (DO.sl ll_list (DX.var (i := 2) rfl) (DPo.some (DX.var (i := 5) rfl)) (DPo.some (DX.add (DX.var (i := 5) rfl) (DX.var (i := 6) rfl))))) DA.nil)) (.fz (.fz .nil)) (.fz (.fz .nil)) List.nodup_nil (by exact trivial)) rfl (fun _ => HEq.rfl)) (DG.name (i := 3) sc39.nd rfl (.inl rfl)) (by exact trivial) (by show ∀ j ∈ ([3] : List Nat), j ∉ ([0] : List Nat); decide)) rfl (by exact rfl)) <|
      DN.cons (Δ1 := ([.ow (oList (tInt K)) (fun (s : m_law_pieces_right_L3T) => (m_law_pieces_right_c4 s).1), .fz (tTp [(tInt K), (tList (tTp [(tInt K), (tInt K)])), (tOpt (tInt K))]) (fun (s : m_law_pieces_right_L3T) => s.1.1.2.1), .fz (tList (tTp [(tStr K), (tInt K)])) (fun (s : m_law_pieces_right_L3T) => s.1.1.2.2.1), .fz (tTp [(tInt K), (tList (tTp [(tInt K), (tInt K)])), (tOpt (tInt K))]) (fun (s : m_law_pieces_right_L3T) => (m_law_pieces_right_c8 s)), .ow (oList (tTp [(tInt K), (tList (tTp [(tInt K), (tInt K)])), (tOpt (tInt K))])) (fun (s : m_law_pieces_right_L3T) => (m_law_pieces_right_v_along_7 s)), .fz (tInt K) (fun (s : m_law_pieces_right_L3T) => (m_law_pieces_right_v_at_9 s)), .fz (tInt K) (fun (s : m_law_pieces_right_L3T) => (m_law_pieces_right_v_size_here_5 s))] : Ctx K m_law_pieces_right_L3T)) (DS.conv (DS.asg (DX.add (DX.var (i := 5) rfl) (DX.var (i := 6) rfl)) (DG.name (i := 5) sc39.nd rfl (.inl rfl)) (by exact trivial) (by show ∀ j ∈ ([5] : List Nat), j ∉ ([0] : List Nat); decide)) rfl (by exact rfl)) <|
      DN.fin rfl
    ) (.ow (ω := (oList (tInt K))) (pr := fun (m : m_law_pieces_right_L3M) => m.1) (fun _ => by rfl) (.keep (sl := .fz (tTp [(tInt K), (tList (tTp [(tInt K), (tInt K)])), (tOpt (tInt K))]) (fun (s : m_law_pieces_right_S) => s.2.1)) (.keep (sl := .fz (tList (tTp [(tStr K), (tInt K)])) (fun (s : m_law_pieces_right_S) => s.2.2.1)) (.fz (τ := (tTp [(tInt K), (tList (tTp [(tInt K), (tInt K)])), (tOpt (tInt K))])) (pr := fun (m : m_law_pieces_right_L3M) => m.2.1) (fun _ => by rfl) (.ow (ω := (oList (tTp [(tInt K), (tList (tTp [(tInt K), (tInt K)])), (tOpt (tInt K))]))) (pr := fun (m : m_law_pieces_right_L3M) => m.2.2.1) (fun _ => by rfl) (.fz (τ := (tInt K)) (pr := fun (m : m_law_pieces_right_L3M) => m.2.2.2) (fun _ => by rfl) (.dead .nil)))))))) rfl rfl) <|
    DR.ret (f := fun (s : m_law_pieces_right_S) => ((m_law_pieces_right_L3 s).1, ((((dfList (dfT3 dfInt (dfList (dfT2 dfInt dfInt)) (dfOpt dfInt)))).eq (m_law_pieces_right_L3 s).2.2.1 (m_law_pieces_right_c10 s)) && (((dfT3 dfInt (dfList (dfT2 dfInt dfInt)) (dfOpt dfInt))).eq (m_law_pieces_right_L3 s).2.1 (m_law_pieces_right_c11 s))))) (DX.borrowE 4 rfl (DX.and (DX.eq hr.rm (dat_list (dat_t3 dat_int (dat_list (dat_t2 dat_int dat_int)) (dat_opt dat_int nn_int))) (DX.var (i := 4) rfl) (DX.ofL (DO.ofC (fm := mstates_along_fm K) (ω := (oList (tTp [(tInt K), (tList (tTp [(tInt K), (tInt K)])), (tOpt (tInt K))]))) (DC.call ((mstates_along_ok T).mono (by decide)) hr T.g28 T.F28.kp T.b28 (DA.cons (DX.var (i := 1) rfl) (DA.cons (DX.var (i := 2) rfl) DA.nil)) (.fz (.fz .nil)) (.fz (.fz .nil)) List.nodup_nil (by exact trivial)) rfl (fun _ => HEq.rfl))) (hn := n64 (m := 5) rfl)) (DX.and1 (DX.pu (DX.eq hr.rm (dat_t3 dat_int (dat_list (dat_t2 dat_int dat_int)) (dat_opt dat_int nn_int)) (DX.var (i := 3) rfl) (DX.ofC (fm := mstate_after_fm K) (τ := (tTp [(tInt K), (tList (tTp [(tInt K), (tInt K)])), (tOpt (tInt K))])) (DC.call ((mstate_after_ok T).mono (by decide)) hr T.g29 T.F29.kp T.b29 (DA.cons (DX.var (i := 1) rfl) (DA.cons (DX.var (i := 2) rfl) DA.nil)) (.fz (.fz .nil)) (.fz (.fz .nil)) List.nodup_nil (by exact trivial)) rfl (fun _ => HEq.rfl)) (hn := n64 (m := 4) rfl)) rfl rfl))) lf_bool (by show 4 ∉ ([] : List Nat); decide) (by exact trivial) (by exact trivial)) (OwnAll.all (by exact trivial)) (.mu rfl (.fz (.fz .nil))) ⟨rfl, fun _ => HEq.rfl, fun _ => rfl⟩
    ) (by exact fun _ => (hide_eq _).symm) (by exact fun _ h => h)
theorem m_law_idle_right_ok (T : Tx K mg) : FnG P w K mg base CX0 9 T.a40 T.d40 ["_law_source_here", "_law_start_here", "_law_pressed_here"] (SpOf (m_law_idle_right_fm K) m_law_idle_right_p m_law_idle_right) := by
  refine def_ok T.F40 sc40 rfl (by decide) fun cdv A outer s H E hr => ?_
  exact def_fin (Δ := ([.ow (oList (tInt K)) (fun (s : m_law_idle_right_S) => s.1), .fz (tTp [(tInt K), (tList (tTp [(tInt K), (tInt K)])), (tOpt (tInt K))]) (fun (s : m_law_idle_right_S) => s.2.1), .fz (tList (tTp [(tStr K), (tInt K)])) (fun (s : m_law_idle_right_S) => s.2.2.1), .dead, .dead, .dead, .dead, .dead] : Ctx K m_law_idle_right_S)) (p := m_law_idle_right_p) (fv := m_law_idle_right) (
    DR.cons (Δ1 := ([.ow (oList (tInt K)) (fun (s : m_law_idle_right_S) => (m_law_idle_right_c1 s).1), .fz (tTp [(tInt K), (tList (tTp [(tInt K), (tInt K)])), (tOpt (tInt K))]) (fun (s : m_law_idle_right_S) => s.2.1), .fz (tList (tTp [(tStr K), (tInt K)])) (fun (s : m_law_idle_right_S) => s.2.2.1), .fz (tInt K) (fun (s : m_law_idle_right_S) => (m_law_idle_right_c1 s).2), .dead, .dead, .dead, .dead] : Ctx K m_law_idle_right_S)) (DS.conv (DS.asg (DX.ofC (fm := m_law_draw_fm K) (τ := (tInt K)) (DC.call ((m_law_draw_ok T).mono (by decide)) hr T.g32 T.F32.kp T.b32 (DA.mu (j := 0) rfl (DA.cons (DX.add (DX.len ll_list T.n_len (DX.var (i := 2) rfl)) DX.int) DA.nil)) (.mu rfl (.fz .nil)) (.mu (.fz .nil)) nd1 (by exact ⟨⟨_, _, rfl⟩, trivial⟩)) rfl (fun _ => HEq.rfl)) (DG.name (i := 3) sc40.nd rfl (.inl rfl)) (by exact ⟨⟨_, _, rfl⟩, trivial⟩) (by show ∀ j ∈ ([3] : List Nat), j ∉ ([0] : List Nat); decide)) rfl (by exact rfl)) <|
    DR.cons (Δ1 := ([.ow (oList (tInt K)) (fun (s : m_law_idle_right_S) => (m_law_idle_right_c1 s).1), .fz (tTp [(tInt K), (tList (tTp [(tInt K), (tInt K)])), (tOpt (tInt K))]) (fun (s : m_law_idle_right_S) => s.2.1), .fz (tList (tTp [(tStr K), (tInt K)])) (fun (s : m_law_idle_right_S) => s.2.2.1), .fz (tInt K) (fun (s : m_law_idle_right_S) => (m_law_idle_right_c1 s).2), .fz (tTp [(tInt K), (tList (tTp [(tInt K), (tInt K)])), (tOpt (tInt K))]) (fun (s : m_law_idle_right_S) => (m_law_idle_right_c2 s)), .dead, .dead, .dead] : Ctx K m_law_idle_right_S)) (DS.conv (DS.asg (DX.ofC (fm := mstate_after_fm K) (τ := (tTp [(tInt K), (tList (tTp [(tInt K), (tInt K)])), (tOpt (tInt K))])) (DC.call ((mstate_after_ok T).mono (by decide)) hr T.g29 T.F29.kp T.b29 (DA.cons (DX.var (i := 1) rfl) (DA.cons (DX.ofL (DO.sl ll_list (DX.var (i := 2) rfl) DPo.none (DPo.some (DX.var (i := 3) rfl)))) DA.nil)) (.fz (.fz .nil)) (.fz (.fz .nil)) List.nodup_nil (by exact trivial)) rfl (fun _ => HEq.rfl)) (DG.name (i := 4) sc40.nd rfl (.inl rfl)) (by exact trivial) (by show ∀ j ∈ ([4] : List Nat), j ∉ ([0] : List Nat); decide)) rfl (by exact rfl)) <|
    DR.cons (Δ1 := ([.ow (oList (tInt K)) (fun (s : m_law_idle_right_S) => (m_law_idle_right_c3 s).1), .fz (tTp [(tInt K), (tList (tTp [(tInt K), (tInt K)])), (tOpt (tInt K))]) (fun (s : m_law_idle_right_S) => s.2.1), .fz (tList (tTp [(tStr K), (tInt K)])) (fun (s : m_law_idle_right_S) => s.2.2.1), .fz (tInt K) (fun (s : m_law_idle_right_S) => (m_law_idle_right_c1 s).2), .fz (tTp [(tInt K), (tList (tTp [(tInt K), (tInt K)])), (tOpt (tInt K))]) (fun (s : m_law_idle_right_S) => (m_law_idle_right_c2 s)), .fz (tInt K) (fun (s : m_law_idle_right_S) => (m_law_idle_right_c3 s).2), .dead, .dead] : Ctx K m_law_idle_right_S)) (DS.conv (DS.asg (DX.ofC (fm := m_law_item_fm K) (τ := (tInt K)) (DC.call ((m_law_item_ok T).mono (by decide)) hr T.g35 T.F35.kp T.b35 (DA.mu (j := 0) rfl (DA.cons (DX.tix (k := 0) (DX.var (i := 1) rfl) .zero) (DA.cons DX.int DA.nil))) (.mu rfl (.fz (.fz .nil))) (.mu (.fz (.fz .nil))) nd1 (by exact ⟨⟨_, _, rfl⟩, trivial⟩)) rfl (fun _ => HEq.rfl)) (DG.name (i := 5) sc40.nd rfl (.inl rfl)) (by exact ⟨⟨_, _, rfl⟩, trivial⟩) (by show ∀ j ∈ ([5] : List Nat), j ∉ ([0] : List Nat); decide)) rfl (by exact rfl)) <|
    DR.cons (Δ1 := ([.ow (oList (tInt K)) (fun (s : m_law_idle_right_S) => (m_law_idle_right_c3 s).1), .fz (tTp [(tInt K), (tList (tTp [(tInt K), (tInt K)])), (tOpt (tInt K))]) (fun (s : m_law_idle_right_S) => s.2.1), .fz (tList (tTp [(tStr K), (tInt K)])) (fun (s : m_law_idle_right_S) => s.2.2.1), .fz (tInt K) (fun (s : m_law_idle_right_S) => (m_law_idle_right_c1 s).2), .fz (tTp [(tInt K), (tList (tTp [(tInt K), (tInt K)])), (tOpt (tInt K))]) (fun (s : m_law_idle_right_S) => (m_law_idle_right_c2 s)), .fz (tInt K) (fun (s : m_law_idle_right_S) => (m_law_idle_right_c3 s).2), .fz (tTp [(tInt K), (tList (tTp [(tInt K), (tInt K)])), (tOpt (tInt K))]) (fun (s : m_law_idle_right_S) => (m_law_idle_right_c4 s)), .dead] : Ctx K m_law_idle_right_S)) (DS.conv (DS.asg (DX.ofC (fm := mstate_after_fm K) (τ := (tTp [(tInt K), (tList (tTp [(tInt K), (tInt K)])), (tOpt (tInt K))])) (DC.call ((mstate_after_ok T).mono (by decide)) hr T.g29 T.F29.kp T.b29 (DA.cons (DX.var (i := 4) rfl) (DA.cons (DX.ofL (DO.rep (DX.ofL (DO.lst (τ := (tTp [(tStr K), (tInt K)])) (DL.cons (DX.tup (DTs.cons (DX.str (h := ok_str _)) (DTs.one (DX.var (i := 5) rfl))) (hl := (by decide : 2 ≤ sizeLine))) DL.nil) (hl := fun _ => (by decide : 1 ≤ sizeLine)))) DX.int)) DA.nil)) (.fz (.fz .nil)) (.fz (.fz .nil)) List.nodup_nil (by exact trivial)) rfl (fun _ => HEq.rfl)) (DG.name (i := 6) sc40.nd rfl (.inl rfl)) (by exact trivial) (by show ∀ j ∈ ([6] : List Nat), j ∉ ([0] : List Nat); decide)) rfl (by exact rfl)) <|
    DR.if1 (h := fun (s : m_law_idle_right_S) => (!((dfT3 dfInt (dfList (dfT2 dfInt dfInt)) (dfOpt dfInt))).eq (m_law_idle_right_c4 s) ((m_law_idle_right_c2 s).1, (m_law_idle_right_c2 s).2.1, (some (m_law_idle_right_c3 s).2)))) (Δ1 := ([.ow (oList (tInt K)) (fun (s : m_law_idle_right_S) => (m_law_idle_right_c3 s).1), .fz (tTp [(tInt K), (tList (tTp [(tInt K), (tInt K)])), (tOpt (tInt K))]) (fun (s : m_law_idle_right_S) => s.2.1), .fz (tList (tTp [(tStr K), (tInt K)])) (fun (s : m_law_idle_right_S) => s.2.2.1), .fz (tInt K) (fun (s : m_law_idle_right_S) => (m_law_idle_right_c1 s).2), .fz (tTp [(tInt K), (tList (tTp [(tInt K), (tInt K)])), (tOpt (tInt K))]) (fun (s : m_law_idle_right_S) => (m_law_idle_right_c2 s)), .fz (tInt K) (fun (s : m_law_idle_right_S) => (m_law_idle_right_c3 s).2), .fz (tTp [(tInt K), (tList (tTp [(tInt K), (tInt K)])), (tOpt (tInt K))]) (fun (s : m_law_idle_right_S) => (m_law_idle_right_c4 s)), .dead] : Ctx K m_law_idle_right_S)) (DT.conv (DT.ne hr.rm (dat_t3 dat_int (dat_list (dat_t2 dat_int dat_int)) (dat_opt dat_int nn_int)) (DX.var (i := 6) rfl) (DX.tup (DTs.cons (DX.tix (k := 0) (DX.var (i := 4) rfl) .zero) (DTs.cons (DX.tix (k := 1) (DX.var (i := 4) rfl) (.succ .zero)) (DTs.one (DX.someO nv_int (DX.var (i := 5) rfl))))) (hl := (by decide : 3 ≤ sizeLine))) (hn := n64 (m := 4) rfl)) rfl rfl (by exact rfl)) (by exact trivial) (
      DR.ret (f := fun (s : m_law_idle_right_S) => ((m_law_idle_right_c3 s).1, false)) DX.fls (OwnAll.all (by exact trivial)) (.mu rfl (.fz (.fz .nil))) ⟨rfl, fun _ => HEq.rfl, fun _ => rfl⟩
    ) (
      DR.consM (Δ1 := ([.ow (oList (tInt K)) (fun (s : m_law_idle_right_S) => (m_law_idle_right_c3 s).1), .fz (tTp [(tInt K), (tList (tTp [(tInt K), (tInt K)])), (tOpt (tInt K))]) (fun (s : m_law_idle_right_S) => s.2.1), .fz (tList (tTp [(tStr K), (tInt K)])) (fun (s : m_law_idle_right_S) => s.2.2.1), .fz (tInt K) (fun (s : m_law_idle_right_S) => (m_law_idle_right_c1 s).2), .fz (tTp [(tInt K), (tList (tTp [(tInt K), (tInt K)])), (tOpt (tInt K))]) (fun (s : m_law_idle_right_S) => (m_law_idle_right_c2 s)), .fz (tInt K) (fun (s : m_law_idle_right_S) => (m_law_idle_right_c3 s).2), .fz (tTp [(tInt K), (tList (tTp [(tInt K), (tInt K)])), (tOpt (tInt K))]) (fun (s : m_law_idle_right_S) => (m_law_idle_right_c4 s)), .dead] : Ctx K m_law_idle_right_S)) (r := fun (s : m_law_idle_right_S) => (if (m_law_idle_right_h9 s) = true then (orElseO (if (m_law_idle_right_h8 s) = true then (some ((m_law_idle_right_c3 s).1, false)) else none) none) else none)) (DSm.conv (DSm.ite (h := fun (s : m_law_idle_right_S) => (m_law_idle_right_h9 s)) (Δ1 := ([.ow (oList (tInt K)) (fun (s : m_law_idle_right_S) => (m_law_idle_right_c3 s).1), .fz (tTp [(tInt K), (tList (tTp [(tInt K), (tInt K)])), (tOpt (tInt K))]) (fun (s : m_law_idle_right_S) => s.2.1), .fz (tList (tTp [(tStr K), (tInt K)])) (fun (s : m_law_idle_right_S) => s.2.2.1), .fz (tInt K) (fun (s : m_law_idle_right_S) => (m_law_idle_right_c1 s).2), .fz (tTp [(tInt K), (tList (tTp [(tInt K), (tInt K)])), (tOpt (tInt K))]) (fun (s : m_law_idle_right_S) => (m_law_idle_right_c2 s)), .fz (tInt K) (fun (s : m_law_idle_right_S) => (m_law_idle_right_c3 s).2), .fz (tTp [(tInt K), (tList (tTp [(tInt K), (tInt K)])), (tOpt (tInt K))]) (fun (s : m_law_idle_right_S) => (m_law_idle_right_c4 s)), .dead] : Ctx K m_law_idle_right_S)) (Δa := ([.ow (oList (tInt K)) (fun (s : m_law_idle_right_S) => (m_law_idle_right_c3 s).1), .fz (tTp [(tInt K), (tList (tTp [(tInt K), (tInt K)])), (tOpt (tInt K))]) (fun (s : m_law_idle_right_S) => s.2.1), .fz (tList (tTp [(tStr K), (tInt K)])) (fun (s : m_law_idle_right_S) => s.2.2.1), .fz (tInt K) (fun (s : m_law_idle_right_S) => (m_law_idle_right_c1 s).2), .fz (tTp [(tInt K), (tList (tTp [(tInt K), (tInt K)])), (tOpt (tInt K))]) (fun (s : m_law_idle_right_S) => (m_law_idle_right_c2 s)), .fz (tInt K) (fun (s : m_law_idle_right_S) => (m_law_idle_right_c3 s).2), .fz (tTp [(tInt K), (tList (tTp [(tInt K), (tInt K)])), (tOpt (tInt K))]) (fun (s : m_law_idle_right_S) => (m_law_idle_right_c4 s)), .fz (tTp [(tInt K), (tList (tTp [(tInt K), (tInt K)])), (tOpt (tInt K))]) (fun (s : m_law_idle_right_S) => (m_law_idle_right_c5 s))] : Ctx K m_law_idle_right_S)) (Δb := ([.ow (oList (tInt K)) (fun (s : m_law_idle_right_S) => (m_law_idle_right_c3 s).1), .fz (tTp [(tInt K), (tList (tTp [(tInt K), (tInt K)])), (tOpt (tInt K))]) (fun (s : m_law_idle_right_S) => s.2.1), .fz (tList (tTp [(tStr K), (tInt K)])) (fun (s : m_law_idle_right_S) => s.2.2.1), .fz (tInt K) (fun (s : m_law_idle_right_S) => (m_law_idle_right_c1 s).2), .fz (tTp [(tInt K), (tList (tTp [(tInt K), (tInt K)])), (tOpt (tInt K))]) (fun (s : m_law_idle_right_S) => (m_law_idle_right_c2 s)), .fz (tInt K) (fun (s : m_law_idle_right_S) => (m_law_idle_right_c3 s).2), .fz (tTp [(tInt K), (tList (tTp [(tInt K), (tInt K)])), (tOpt (tInt K))]) (fun (s : m_law_idle_right_S) => (m_law_idle_right_c4 s)), .dead] : Ctx K m_law_idle_right_S)) (DT.conv (DT.notN (DX.tix (k := 2) (DX.var (i := 4) rfl) (.succ (.succ .last)))) rfl rfl (by exact rfl)) (by exact trivial) (
        DM.cons (Δ1 := ([.ow (oList (tInt K)) (fun (s : m_law_idle_right_S) => (m_law_idle_right_c3 s).1), .fz (tTp [(tInt K), (tList (tTp [(tInt K), (tInt K)])), (tOpt (tInt K))]) (fun (s : m_law_idle_right_S) => s.2.1), .fz (tList (tTp [(tStr K), (tInt K)])) (fun (s : m_law_idle_right_S) => s.2.2.1), .fz (tInt K) (fun (s : m_law_idle_right_S) => (m_law_idle_right_c1 s).2), .fz (tTp [(tInt K), (tList (tTp [(tInt K), (tInt K)])), (tOpt (tInt K))]) (fun (s : m_law_idle_right_S) => (m_law_idle_right_c2 s)), .fz (tInt K) (fun (s : m_law_idle_right_S) => (m_law_idle_right_c3 s).2), .fz (tTp [(tInt K), (tList (tTp [(tInt K), (tInt K)])), (tOpt (tInt K))]) (fun (s : m_law_idle_right_S) => (m_law_idle_right_c4 s)), .fz (tTp [(tInt K), (tList (tTp [(tInt K), (tInt K)])), (tOpt (tInt K))]) (fun (s : m_law_idle_right_S) => (m_law_idle_right_c5 s))] : Ctx K m_law_idle_right_S)) (DS.conv (DS.asg (DX.ofC (fm := mstate_after_fm K) (τ := (tTp [(tInt K), (tList (tTp [(tInt K), (tInt K)])), (tOpt (tInt K))])) (DC.call ((mstate_after_ok T).mono (by decide)) hr T.g29 T.F29.kp T.b29 (DA.cons (DX.var (i := 4) rfl) (DA.cons (DX.ofL (DO.lst (τ := (tTp [(tStr K), (tInt K)])) (DL.cons (DX.tup (DTs.cons (DX.str (h := ok_str _)) (DTs.one (DX.var (i := 5) rfl))) (hl := (by decide : 2 ≤ sizeLine))) DL.nil) (hl := fun _ => (by decide : 1 ≤ sizeLine)))) DA.nil)) (.fz (.fz .nil)) (.fz (.fz .nil)) List.nodup_nil (by exact trivial)) rfl (fun _ => HEq.rfl)) (DG.name (i := 7) sc40.nd rfl (.inl rfl)) (by exact trivial) (by show ∀ j ∈ ([7] : List Nat), j ∉ ([0] : List Nat); decide)) rfl (by exact rfl)) <|
        DM.consM (Δ1 := ([.ow (oList (tInt K)) (fun (s : m_law_idle_right_S) => (m_law_idle_right_c3 s).1), .fz (tTp [(tInt K), (tList (tTp [(tInt K), (tInt K)])), (tOpt (tInt K))]) (fun (s : m_law_idle_right_S) => s.2.1), .fz (tList (tTp [(tStr K), (tInt K)])) (fun (s : m_law_idle_right_S) => s.2.2.1), .fz (tInt K) (fun (s : m_law_idle_right_S) => (m_law_idle_right_c1 s).2), .fz (tTp [(tInt K), (tList (tTp [(tInt K), (tInt K)])), (tOpt (tInt K))]) (fun (s : m_law_idle_right_S) => (m_law_idle_right_c2 s)), .fz (tInt K) (fun (s : m_law_idle_right_S) => (m_law_idle_right_c3 s).2), .fz (tTp [(tInt K), (tList (tTp [(tInt K), (tInt K)])), (tOpt (tInt K))]) (fun (s : m_law_idle_right_S) => (m_law_idle_right_c4 s)), .fz (tTp [(tInt K), (tList (tTp [(tInt K), (tInt K)])), (tOpt (tInt K))]) (fun (s : m_law_idle_right_S) => (m_law_idle_right_c5 s))] : Ctx K m_law_idle_right_S)) (r := fun (s : m_law_idle_right_S) => (if (m_law_idle_right_h8 s) = true then (some ((m_law_idle_right_c3 s).1, false)) else none)) (DSm.conv (DSm.ite (h := fun (s : m_law_idle_right_S) => (m_law_idle_right_h8 s)) (Δ1 := ([.ow (oList (tInt K)) (fun (s : m_law_idle_right_S) => (m_law_idle_right_c3 s).1), .fz (tTp [(tInt K), (tList (tTp [(tInt K), (tInt K)])), (tOpt (tInt K))]) (fun (s : m_law_idle_right_S) => s.2.1), .fz (tList (tTp [(tStr K), (tInt K)])) (fun (s : m_law_idle_right_S) => s.2.2.1), .fz (tInt K) (fun (s : m_law_idle_right_S) => (m_law_idle_right_c1 s).2), .fz (tTp [(tInt K), (tList (tTp [(tInt K), (tInt K)])), (tOpt (tInt K))]) (fun (s : m_law_idle_right_S) => (m_law_idle_right_c2 s)), .fz (tInt K) (fun (s : m_law_idle_right_S) => (m_law_idle_right_c3 s).2), .fz (tTp [(tInt K), (tList (tTp [(tInt K), (tInt K)])), (tOpt (tInt K))]) (fun (s : m_law_idle_right_S) => (m_law_idle_right_c4 s)), .fz (tTp [(tInt K), (tList (tTp [(tInt K), (tInt K)])), (tOpt (tInt K))]) (fun (s : m_law_idle_right_S) => (m_law_idle_right_c5 s))] : Ctx K m_law_idle_right_S)) (Δa := ([.ow (oList (tInt K)) (fun (s : m_law_idle_right_S) => (m_law_idle_right_c3 s).1), .fz (tTp [(tInt K), (tList (tTp [(tInt K), (tInt K)])), (tOpt (tInt K))]) (fun (s : m_law_idle_right_S) => s.2.1), .fz (tList (tTp [(tStr K), (tInt K)])) (fun (s : m_law_idle_right_S) => s.2.2.1), .fz (tInt K) (fun (s : m_law_idle_right_S) => (m_law_idle_right_c1 s).2), .fz (tTp [(tInt K), (tList (tTp [(tInt K), (tInt K)])), (tOpt (tInt K))]) (fun (s : m_law_idle_right_S) => (m_law_idle_right_c2 s)), .fz (tInt K) (fun (s : m_law_idle_right_S) => (m_law_idle_right_c3 s).2), .fz (tTp [(tInt K), (tList (tTp [(tInt K), (tInt K)])), (tOpt (tInt K))]) (fun (s : m_law_idle_right_S) => (m_law_idle_right_c4 s)), .fz (tTp [(tInt K), (tList (tTp [(tInt K), (tInt K)])), (tOpt (tInt K))]) (fun (s : m_law_idle_right_S) => (m_law_idle_right_c5 s))] : Ctx K m_law_idle_right_S)) (Δb := ([.ow (oList (tInt K)) (fun (s : m_law_idle_right_S) => (m_law_idle_right_c3 s).1), .fz (tTp [(tInt K), (tList (tTp [(tInt K), (tInt K)])), (tOpt (tInt K))]) (fun (s : m_law_idle_right_S) => s.2.1), .fz (tList (tTp [(tStr K), (tInt K)])) (fun (s : m_law_idle_right_S) => s.2.2.1), .fz (tInt K) (fun (s : m_law_idle_right_S) => (m_law_idle_right_c1 s).2), .fz (tTp [(tInt K), (tList (tTp [(tInt K), (tInt K)])), (tOpt (tInt K))]) (fun (s : m_law_idle_right_S) => (m_law_idle_right_c2 s)), .fz (tInt K) (fun (s : m_law_idle_right_S) => (m_law_idle_right_c3 s).2), .fz (tTp [(tInt K), (tList (tTp [(tInt K), (tInt K)])), (tOpt (tInt K))]) (fun (s : m_law_idle_right_S) => (m_law_idle_right_c4 s)), .fz (tTp [(tInt K), (tList (tTp [(tInt K), (tInt K)])), (tOpt (tInt K))]) (fun (s : m_law_idle_right_S) => (m_law_idle_right_c5 s))] : Ctx K m_law_idle_right_S)) (DT.conv (DW.t (DW.or (DT.ne hr.rm (dat_t3 dat_int (dat_list (dat_t2 dat_int dat_int)) (dat_opt dat_int nn_int)) (DX.ofC (fm := mstate_after_fm K) (τ := (tTp [(tInt K), (tList (tTp [(tInt K), (tInt K)])), (tOpt (tInt K))])) (DC.call ((mstate_after_ok T).mono (by decide)) hr T.g29 T.F29.kp T.b29 (DA.cons (DX.var (i := 7) rfl) (DA.cons (DX.ofL (DO.lst (τ := (tTp [(tStr K), (tInt K)])) (DL.cons (DX.tup (DTs.cons (DX.str (h := ok_str _)) (DTs.one (DX.var (i := 5) rfl))) (hl := (by decide : 2 ≤ sizeLine))) DL.nil) (hl := fun _ => (by decide : 1 ≤ sizeLine)))) DA.nil)) (.fz (.fz .nil)) (.fz (.fz .nil)) List.nodup_nil (by exact trivial)) rfl (fun _ => HEq.rfl)) (DX.var (i := 7) rfl) (hn := n64 (m := 4) rfl)) (DW.pu (DW.or1 (DT.ne hr.rm (dat_t3 dat_int (dat_list (dat_t2 dat_int dat_int)) (dat_opt dat_int nn_int)) (DX.ofC (fm := mstate_after_fm K) (τ := (tTp [(tInt K), (tList (tTp [(tInt K), (tInt K)])), (tOpt (tInt K))])) (DC.call ((mstate_after_ok T).mono (by decide)) hr T.g29 T.F29.kp T.b29 (DA.cons (DX.var (i := 4) rfl) (DA.cons (DX.ofL (DO.lst (τ := (tTp [(tStr K), (tInt K)])) (DL.cons (DX.tup (DTs.cons (DX.str (h := ok_str _)) (DTs.one (DX.getO (τ := (tInt K)) (0 : Int) (DX.tix (k := 2) (DX.var (i := 4) rfl) (.succ (.succ .last)))))) (hl := (by decide : 2 ≤ sizeLine))) DL.nil) (hl := fun _ => (by decide : 1 ≤ sizeLine)))) DA.nil)) (.fz (.fz .nil)) (.fz (.fz .nil)) List.nodup_nil (by exact trivial)) rfl (fun _ => HEq.rfl)) (DX.var (i := 4) rfl) (hn := n64 (m := 4) rfl))) rfl rfl))) rfl rfl (by exact rfl)) (by exact trivial) (
          DM.ofR <|
          DR.ret (f := fun (s : m_law_idle_right_S) => ((m_law_idle_right_c3 s).1, false)) DX.fls (OwnAll.all (by exact trivial)) (.mu rfl (.fz (.fz .nil))) ⟨rfl, fun _ => HEq.rfl, fun _ => rfl⟩
        ) (
          DM.ofN <|
          DN.fin rfl
        ) (.same (.same (.same (.same (.same (.same (.same (.same .nil))))))))) rfl rfl (by exact rfl)) <|
        DM.ofN <|
        DN.fin rfl
      ) (
        DM.ofN <|
        DN.fin rfl
      ) (.same (.same (.same (.same (.same (.same (.same (.dead .nil))))))))) rfl rfl (by exact rfl)) <|
      DR.ret (f := fun (s : m_law_idle_right_S) => ((m_law_idle_right_c3 s).1, (((dfList (dfT2 dfInt dfInt))).eq (m_law_idle_right_c10 s).2.1 (m_law_idle_right_c2 s).2.1))) (DX.eq hr.rm (dat_list (dat_t2 dat_int dat_int)) (DX.tix (k := 1) (DX.ofC (fm := mstate_after_fm K) (τ := (tTp [(tInt K), (tList (tTp [(tInt K), (tInt K)])), (tOpt (tInt K))])) (DC.call ((mstate_after_ok T).mono (by decide)) hr T.g29 T.F29.kp T.b29 (DA.cons (DX.var (i := 6) rfl) (DA.cons (DX.ofL (DO.rep (DX.ofL (DO.lst (τ := (tTp [(tStr K), (tInt K)])) (DL.cons (DX.tup (DTs.cons (DX.str (h := ok_str _)) (DTs.one (DX.orO (DX.tix (k := 2) (DX.var (i := 4) rfl) (.succ (.succ .last))) (DX.one1 (DX.pu DX.int rfl rfl))))) (hl := (by decide : 2 ≤ sizeLine))) DL.nil) (hl := fun _ => (by decide : 1 ≤ sizeLine)))) DX.int)) DA.nil)) (.fz (.fz .nil)) (.fz (.fz .nil)) List.nodup_nil (by exact trivial)) rfl (fun _ => HEq.rfl)) (.succ .zero)) (DX.tix (k := 1) (DX.var (i := 4) rfl) (.succ .zero)) (hn := n64 (m := 3) rfl)) (OwnAll.all (by exact trivial)) (.mu rfl (.fz (.fz .nil))) ⟨rfl, fun _ => HEq.rfl, fun _ => rfl⟩
    )
    ) (by exact fun _ => (hide_eq _).symm) (by exact fun _ h => h)
theorem mlaw_ok (T : Tx K mg) : FnG P w K mg base CX0 10 T.a41 T.d41 ["_law_script"] (SpOf (mlaw_fm K) mlaw_p mlaw) := by
  refine def_ok T.F41 sc41 rfl (by decide) fun cdv A outer s H E hr => ?_
  exact def_fin (Δ := ([.fz (tScr K) (fun (s : mlaw_S) => s.1), .dead, .dead, .dead, .dead, .dead, .dead] : Ctx K mlaw_S)) (p := mlaw_p) (fv := mlaw) (
    DR.consM (Δ1 := ([.fz (tScr K) (fun (s : mlaw_S) => s.1), .dead, .dead, .dead, .dead, .dead, .dead] : Ctx K mlaw_S)) (r := fun s => mlaw_L2R s) (DSm.conv (DSm.forH (r := fun s => mlaw_L2r s) (S := mlaw_S) (M := mlaw_L2M) (τ := (tTp [(tInt K), (tInt K)])) (init := fun s => mlaw_L2i s) (step := fun s => mlaw_L2s s) (fx := fun s => mlaw_L2x s) (Δ1 := ([.fz (tScr K) (fun (s : mlaw_S) => s.1), .dead, .dead, .dead, .dead, .dead, .dead] : Ctx K mlaw_S)) (Δl := ([.fz (tScr K) (fun (s : (mlaw_S × mlaw_L2M)) => s.1.1), .dead, .dead, .dead, .dead, .dead, .dead] : Ctx K (mlaw_S × mlaw_L2M))) (Δb := ([.fz (tScr K) (fun (s : mlaw_L2T) => s.1.1.1), .fz (tInt K) (fun (s : mlaw_L2T) => s.2.1), .fz (tInt K) (fun (s : mlaw_L2T) => s.2.2), .dead, .dead, .dead, .dead] : Ctx K mlaw_L2T)) (Δe := ([.fz (tScr K) (fun (s : mlaw_L2T) => s.1.1.1), .fz (tInt K) (fun (s : mlaw_L2T) => s.2.1), .fz (tInt K) (fun (s : mlaw_L2T) => s.2.2), .ow (oList (tInt K)) (fun (s : mlaw_L2T) => (mlaw_L8 s)), .fz (tTp [(tInt K), (tList (tTp [(tInt K), (tInt K)])), (tOpt (tInt K))]) (fun (s : mlaw_L2T) => (mlaw_c4 s).2), .fz (tList (tTp [(tStr K), (tInt K)])) (fun (s : mlaw_L2T) => (mlaw_c5 s).2), .dead] : Ctx K mlaw_L2T)) (DI.conv (DI.enum ll_list T.n_enumerate (DX.ofL (DO.ofC (fm := m_law_cells_fm K) (ω := (oList (tInt K))) (DC.call ((m_law_cells_ok T).mono (by decide)) hr T.g33 T.F33.kp T.b33 (DA.cons (DX.var (i := 0) rfl) (DA.cons DX.int DA.nil)) (.fz (.fz .nil)) (.fz (.fz .nil)) List.nodup_nil (by exact trivial)) rfl (fun _ => HEq.rfl)))) rfl rfl (by exact rfl)) (by exact trivial) (.keep (.dead (.dead (.dead (.dead (.dead (.dead .nil))))))) (DG.tup (DGs.cons (DG.name (i := 1) sc41.nd rfl (.inl rfl)) (DGs.one (DG.name (i := 2) sc41.nd rfl (.inl rfl))))) (by show ∀ j ∈ ([1, 2] : List Nat), j ∉ ([] : List Nat); decide) (
      DM.cons (Δ1 := ([.fz (tScr K) (fun (s : mlaw_L2T) => s.1.1.1), .fz (tInt K) (fun (s : mlaw_L2T) => s.2.1), .fz (tInt K) (fun (s : mlaw_L2T) => s.2.2), .ow (oList (tInt K)) (fun (s : mlaw_L2T) => (mlaw_c3 s)), .dead, .dead, .dead] : Ctx K mlaw_L2T)) (DS.conv (DS.setO (DO.ofC (fm := m_law_source_fm K) (ω := (oList (tInt K))) (DC.call ((m_law_source_ok T).mono (by decide)) hr T.g31 T.F31.kp T.b31 (DA.cons (DX.var (i := 2) rfl) (DA.cons (DX.var (i := 1) rfl) DA.nil)) (.fz (.fz .nil)) (.fz (.fz .nil)) List.nodup_nil (by exact trivial)) rfl (fun _ => HEq.rfl)) (by exact trivial) sc41.nd (i := 3) rfl (.inl rfl) (by show 3 ∉ ([] : List Nat); decide)) rfl (by exact rfl)) <|
      DM.cons (Δ1 := ([.fz (tScr K) (fun (s : mlaw_L2T) => s.1.1.1), .fz (tInt K) (fun (s : mlaw_L2T) => s.2.1), .fz (tInt K) (fun (s : mlaw_L2T) => s.2.2), .ow (oList (tInt K)) (fun (s : mlaw_L2T) => (mlaw_c4 s).1), .fz (tTp [(tInt K), (tList (tTp [(tInt K), (tInt K)])), (tOpt (tInt K))]) (fun (s : mlaw_L2T) => (mlaw_c4 s).2), .dead, .dead] : Ctx K mlaw_L2T)) (DS.conv (DS.asg (DX.ofC (fm := m_law_start_fm K) (τ := (tTp [(tInt K), (tList (tTp [(tInt K), (tInt K)])), (tOpt (tInt K))])) (DC.call ((m_law_start_ok T).mono (by decide)) hr T.g38 T.F38.kp T.b38 (DA.mu (j := 3) rfl (DA.cons (DX.var (i := 0) rfl) (DA.cons DX.int DA.nil))) (.mu rfl (.fz (.fz .nil))) (.mu (.fz (.fz .nil))) nd1 (by exact ⟨⟨_, _, rfl⟩, trivial⟩)) rfl (fun _ => HEq.rfl)) (DG.name (i := 4) sc41.nd rfl (.inl rfl)) (by exact ⟨⟨_, _, rfl⟩, trivial⟩) (by show ∀ j ∈ ([4] : List Nat), j ∉ ([] : List Nat); decide)) rfl (by exact rfl)) <|
      DM.cons (Δ1 := ([.fz (tScr K) (fun (s : mlaw_L2T) => s.1.1.1), .fz (tInt K) (fun (s : mlaw_L2T) => s.2.1), .fz (tInt K) (fun (s : mlaw_L2T) => s.2.2), .ow (oList (tInt K)) (fun (s : mlaw_L2T) => (mlaw_c5 s).1), .fz (tTp [(tInt K), (tList (tTp [(tInt K), (tInt K)])), (tOpt (tInt K))]) (fun (s : mlaw_L2T) => (mlaw_c4 s).2), .fz (tList (tTp [(tStr K), (tInt K)])) (fun (s : mlaw_L2T) => (mlaw_c5 s).2), .dead] : Ctx K mlaw_L2T)) (DS.conv (DS.asg (DX.ofL (DO.ofC (fm := m_law_pressed_fm K) (ω := (oList (tTp [(tStr K), (tInt K)]))) (DC.call ((m_law_pressed_ok T).mono (by decide)) hr T.g37 T.F37.kp T.b37 (DA.mu (j := 3) rfl (DA.cons (DX.tix (k := 0) (DX.var (i := 4) rfl) .zero) (DA.cons (DX.ite (DT.eq hr.rm dat_scr (DX.var (i := 0) rfl) (DX.scrL (DX.ofL (DO.lst (τ := (tInt K)) DL.nil (hl := fun _ => (by decide : 0 ≤ sizeLine))))) (hn := n64 (m := 2) rfl)) (DX.pu DX.int rfl rfl) (DX.pu DX.int rfl rfl)) (DA.cons (DX.tix (k := 2) (DX.var (i := 4) rfl) (.succ (.succ .last))) DA.nil)))) (.mu rfl (.fz (.fz (.fz .nil)))) (.mu (.fz (.fz (.fz .nil)))) nd1 (by exact ⟨⟨_, _, rfl⟩, trivial⟩)) rfl (fun _ => HEq.rfl))) (DG.name (i := 5) sc41.nd rfl (.inl rfl)) (by exact ⟨⟨_, _, rfl⟩, trivial⟩) (by show ∀ j ∈ ([5] : List Nat), j ∉ ([] : List Nat); decide)) rfl (by unfold mlaw_c5; rfl)) <|
      DM.consM (Δ1 := ([.fz (tScr K) (fun (s : mlaw_L2T) => s.1.1.1), .fz (tInt K) (fun (s : mlaw_L2T) => s.2.1), .fz (tInt K) (fun (s : mlaw_L2T) => s.2.2), .ow (oList (tInt K)) (fun (s : mlaw_L2T) => (mlaw_c6 s).1), .fz (tTp [(tInt K), (tList (tTp [(tInt K), (tInt K)])), (tOpt (tInt K))]) (fun (s : mlaw_L2T) => (mlaw_c4 s).2), .fz (tList (tTp [(tStr K), (tInt K)])) (fun (s : mlaw_L2T) => (mlaw_c5 s).2), .dead] : Ctx K mlaw_L2T)) (r := fun (s : mlaw_L2T) => (if (mlaw_h7 s) = true then (some false) else none)) (DSm.conv (DSm.ite (h := fun (s : mlaw_L2T) => (mlaw_h7 s)) (Δ1 := ([.fz (tScr K) (fun (s : mlaw_L2T) => s.1.1.1), .fz (tInt K) (fun (s : mlaw_L2T) => s.2.1), .fz (tInt K) (fun (s : mlaw_L2T) => s.2.2), .ow (oList (tInt K)) (fun (s : mlaw_L2T) => (mlaw_c6 s).1), .fz (tTp [(tInt K), (tList (tTp [(tInt K), (tInt K)])), (tOpt (tInt K))]) (fun (s : mlaw_L2T) => (mlaw_c4 s).2), .fz (tList (tTp [(tStr K), (tInt K)])) (fun (s : mlaw_L2T) => (mlaw_c5 s).2), .dead] : Ctx K mlaw_L2T)) (Δa := ([.fz (tScr K) (fun (s : mlaw_L2T) => s.1.1.1), .fz (tInt K) (fun (s : mlaw_L2T) => s.2.1), .fz (tInt K) (fun (s : mlaw_L2T) => s.2.2), .ow (oList (tInt K)) (fun (s : mlaw_L2T) => (mlaw_c6 s).1), .fz (tTp [(tInt K), (tList (tTp [(tInt K), (tInt K)])), (tOpt (tInt K))]) (fun (s : mlaw_L2T) => (mlaw_c4 s).2), .fz (tList (tTp [(tStr K), (tInt K)])) (fun (s : mlaw_L2T) => (mlaw_c5 s).2), .dead] : Ctx K mlaw_L2T)) (Δb := ([.fz (tScr K) (fun (s : mlaw_L2T) => s.1.1.1), .fz (tInt K) (fun (s : mlaw_L2T) => s.2.1), .fz (tInt K) (fun (s : mlaw_L2T) => s.2.2), .ow (oList (tInt K)) (fun (s : mlaw_L2T) => (mlaw_c6 s).1), .fz (tTp [(tInt K), (tList (tTp [(tInt K), (tInt K)])), (tOpt (tInt K))]) (fun (s : mlaw_L2T) => (mlaw_c4 s).2), .fz (tList (tTp [(tStr K), (tInt K)])) (fun (s : mlaw_L2T) => (mlaw_c5 s).2), .dead] : Ctx K mlaw_L2T)) (DT.conv (DT.not (DT.ofX (DX.ofC (fm := m_law_pieces_right_fm K) (τ := (tBool K)) (DC.call ((m_law_pieces_right_ok T).mono (by decide)) hr T.g39 T.F39.kp T.b39 (DA.mu (j := 3) rfl (DA.cons (DX.var (i := 4) rfl) (DA.cons (DX.var (i := 5) rfl) DA.nil))) (.mu rfl (.fz (.fz .nil))) (.mu (.fz (.fz .nil))) nd1 (by exact ⟨⟨_, _, rfl⟩, trivial⟩)) rfl (fun _ => HEq.rfl)))) rfl rfl (by exact rfl)) (by exact ⟨⟨_, _, rfl⟩, trivial⟩) (
        DM.ofR <|
        DR.ret (f := fun (s : mlaw_L2T) => false) DX.fls (OwnAll.all (by exact trivial)) (.fz .nil) ⟨rfl, fun _ => HEq.rfl, fun _ => rfl⟩
      ) (
        DM.ofN <|
        DN.fin rfl
      ) (.same (.same (.same (.same (.same (.same (.same .nil)))))))) rfl rfl (by exact rfl)) <|
      DM.consM (Δ1 := ([.fz (tScr K) (fun (s : mlaw_L2T) => s.1.1.1), .fz (tInt K) (fun (s : mlaw_L2T) => s.2.1), .fz (tInt K) (fun (s : mlaw_L2T) => s.2.2), .ow (oList (tInt K)) (fun (s : mlaw_L2T) => (mlaw_L8 s)), .fz (tTp [(tInt K), (tList (tTp [(tInt K), (tInt K)])), (tOpt (tInt K))]) (fun (s : mlaw_L2T) => (mlaw_c4 s).2), .fz (tList (tTp [(tStr K), (tInt K)])) (fun (s : mlaw_L2T) => (mlaw_c5 s).2), .dead] : Ctx K mlaw_L2T)) (r := fun s => mlaw_L8R s) (DSm.conv (DSm.forH (r := fun s => mlaw_L8r s) (S := mlaw_L2T) (M := mlaw_L8M) (τ := (tInt K)) (init := fun s => mlaw_L8i s) (step := fun s => mlaw_L8s s) (fx := fun s => mlaw_L8x s) (Δ1 := ([.fz (tScr K) (fun (s : mlaw_L2T) => s.1.1.1), .fz (tInt K) (fun (s : mlaw_L2T) => s.2.1), .fz (tInt K) (fun (s : mlaw_L2T) => s.2.2), .ow (oList (tInt K)) (fun (s : mlaw_L2T) => (mlaw_c6 s).1), .fz (tTp [(tInt K), (tList (tTp [(tInt K), (tInt K)])), (tOpt (tInt K))]) (fun (s : mlaw_L2T) => (mlaw_c4 s).2), .fz (tList (tTp [(tStr K), (tInt K)])) (fun (s : mlaw_L2T) => (mlaw_c5 s).2), .dead] : Ctx K mlaw_L2T)) (Δl := ([.fz (tScr K) (fun (s : (mlaw_L2T × mlaw_L8M)) => s.1.1.1.1), .fz (tInt K) (fun (s : (mlaw_L2T × mlaw_L8M)) => s.1.2.1), .fz (tInt K) (fun (s : (mlaw_L2T × mlaw_L8M)) => s.1.2.2), .ow (oList (tInt K)) (fun (s : (mlaw_L2T × mlaw_L8M)) => s.2), .fz (tTp [(tInt K), (tList (tTp [(tInt K), (tInt K)])), (tOpt (tInt K))]) (fun (s : (mlaw_L2T × mlaw_L8M)) => (mlaw_c4 s.1).2), .fz (tList (tTp [(tStr K), (tInt K)])) (fun (s : (mlaw_L2T × mlaw_L8M)) => (mlaw_c5 s.1).2), .dead] : Ctx K (mlaw_L2T × mlaw_L8M))) (Δb := ([.fz (tScr K) (fun (s : mlaw_L8T) => s.1.1.1.1.1), .fz (tInt K) (fun (s : mlaw_L8T) => s.1.1.2.1), .fz (tInt K) (fun (s : mlaw_L8T) => s.1.1.2.2), .ow (oList (tInt K)) (fun (s : mlaw_L8T) => s.1.2), .fz (tTp [(tInt K), (tList (tTp [(tInt K), (tInt K)])), (tOpt (tInt K))]) (fun (s : mlaw_L8T) => (mlaw_c4 s.1.1).2), .fz (tList (tTp [(tStr K), (tInt K)])) (fun (s : mlaw_L8T) => (mlaw_c5 s.1.1).2), .fz (tInt K) (fun (s : mlaw_L8T) => s.2)] : Ctx K mlaw_L8T)) (Δe := ([.fz (tScr K) (fun (s : mlaw_L8T) => s.1.1.1.1.1), .fz (tInt K) (fun (s : mlaw_L8T) => s.1.1.2.1), .fz (tInt K) (fun (s : mlaw_L8T) => s.1.1.2.2), .ow (oList (tInt K)) (fun (s : mlaw_L8T) => (mlaw_c9 s).1), .fz (tTp [(tInt K), (tList (tTp [(tInt K), (tInt K)])), (tOpt (tInt K))]) (fun (s : mlaw_L8T) => (mlaw_c4 s.1.1).2), .fz (tList (tTp [(tStr K), (tInt K)])) (fun (s : mlaw_L8T) => (mlaw_c5 s.1.1).2), .fz (tInt K) (fun (s : mlaw_L8T) => s.2)] : Ctx K mlaw_L8T)) (DI.conv (DI.range1 T.n_range DX.int) rfl rfl (by exact rfl)) (by exact trivial) (.keep (.keep (.keep (.ow (ω := (oList (tInt K))) (fun (m : mlaw_L8M) => m) (fun _ => by rfl) (.keep (.keep (.dead .nil))))))) (DG.name (i := 6) sc41.nd rfl (.inl rfl)) (by show ∀ j ∈ ([6] : List Nat), j ∉ ([] : List Nat); decide) (
        DM.consM (Δ1 := ([.fz (tScr K) (fun (s : mlaw_L8T) => s.1.1.1.1.1), .fz (tInt K) (fun (s : mlaw_L8T) => s.1.1.2.1), .fz (tInt K) (fun (s : mlaw_L8T) => s.1.1.2.2), .ow (oList (tInt K)) (fun (s : mlaw_L8T) => (mlaw_c9 s).1), .fz (tTp [(tInt K), (tList (tTp [(tInt K), (tInt K)])), (tOpt (tInt K))]) (fun (s : mlaw_L8T) => (mlaw_c4 s.1.1).2), .fz (tList (tTp [(tStr K), (tInt K)])) (fun (s : mlaw_L8T) => (mlaw_c5 s.1.1).2), .fz (tInt K) (fun (s : mlaw_L8T) => s.2)] : Ctx K mlaw_L8T)) (r := fun (s : mlaw_L8T) => (if (mlaw_h10 s) = true then (some false) else none)) (DSm.conv (DSm.ite (h := fun (s : mlaw_L8T) => (mlaw_h10 s)) (Δ1 := ([.fz (tScr K) (fun (s : mlaw_L8T) => s.1.1.1.1.1), .fz (tInt K) (fun (s : mlaw_L8T) => s.1.1.2.1), .fz (tInt K) (fun (s : mlaw_L8T) => s.1.1.2.2), .ow (oList (tInt K)) (fun (s : mlaw_L8T) => (mlaw_c9 s).1), .fz (tTp [(tInt K), (tList (tTp [(tInt K), (tInt K)])), (tOpt (tInt K))]) (fun (s : mlaw_L8T) => (mlaw_c4 s.1.1).2), .fz (tList (tTp [(tStr K), (tInt K)])) (fun (s : mlaw_L8T) => (mlaw_c5 s.1.1).2), .fz (tInt K) (fun (s : mlaw_L8T) => s.2)] : Ctx K mlaw_L8T)) (Δa := ([.fz (tScr K) (fun (s : mlaw_L8T) => s.1.1.1.1.1), .fz (tInt K) (fun (s : mlaw_L8T) => s.1.1.2.1), .fz (tInt K) (fun (s : mlaw_L8T) => s.1.1.2.2), .ow (oList (tInt K)) (fun (s : mlaw_L8T) => (mlaw_c9 s).1), .fz (tTp [(tInt K), (tList (tTp [(tInt K), (tInt K)])), (tOpt (tInt K))]) (fun (s : mlaw_L8T) => (mlaw_c4 s.1.1).2), .fz (tList (tTp [(tStr K), (tInt K)])) (fun (s : mlaw_L8T) => (mlaw_c5 s.1.1).2), .fz (tInt K) (fun (s : mlaw_L8T) => s.2)] : Ctx K mlaw_L8T)) (Δb := ([.fz (tScr K) (fun (s : mlaw_L8T) => s.1.1.1.1.1), .fz (tInt K) (fun (s : mlaw_L8T) => s.1.1.2.1), .fz (tInt K) (fun (s : mlaw_L8T) => s.1.1.2.2), .ow (oList (tInt K)) (fun (s : mlaw_L8T) => (mlaw_c9 s).1), .fz (tTp [(tInt K), (tList (tTp [(tInt K), (tInt K)])), (tOpt (tInt K))]) (fun (s : mlaw_L8T) => (mlaw_c4 s.1.1).2), .fz (tList (tTp [(tStr K), (tInt K)])) (fun (s : mlaw_L8T) => (mlaw_c5 s.1.1).2), .fz (tInt K) (fun (s : mlaw_L8T) => s.2)] : Ctx K mlaw_L8T)) (DT.conv (DT.not (DT.ofX (DX.ofC (fm := m_law_idle_right_fm K) (τ := (tBool K)) (DC.call ((m_law_idle_right_ok T).mono (by decide)) hr T.g40 T.F40.kp T.b40 (DA.mu (j := 3) rfl (DA.cons (DX.var (i := 4) rfl) (DA.cons (DX.var (i := 5) rfl) DA.nil))) (.mu rfl (.fz (.fz .nil))) (.mu (.fz (.fz .nil))) nd1 (by exact ⟨⟨_, _, rfl⟩, trivial⟩)) rfl (fun _ => HEq.rfl)))) rfl rfl (by exact rfl)) (by exact ⟨⟨_, _, rfl⟩, trivial⟩) (
          DM.ofR <|
          DR.ret (f := fun (s : mlaw_L8T) => false) DX.fls (OwnAll.all (by exact trivial)) (.fz .nil) ⟨rfl, fun _ => HEq.rfl, fun _ => rfl⟩
        ) (
          DM.ofN <|
          DN.fin rfl
        ) (.same (.same (.same (.same (.same (.same (.same .nil)))))))) rfl rfl (by exact rfl)) <|
        DM.ofN <|
        DN.fin rfl
      ) (.keep (sl := .fz (tScr K) (fun (s : mlaw_L2T) => s.1.1.1)) (.keep (sl := .fz (tInt K) (fun (s : mlaw_L2T) => s.2.1)) (.keep (sl := .fz (tInt K) (fun (s : mlaw_L2T) => s.2.2)) (.ow (ω := (oList (tInt K))) (pr := fun (m : mlaw_L8M) => m) (fun _ => by rfl) (.keep (sl := .fz (tTp [(tInt K), (tList (tTp [(tInt K), (tInt K)])), (tOpt (tInt K))]) (fun (s : mlaw_L2T) => (mlaw_c4 s).2)) (.keep (sl := .fz (tList (tTp [(tStr K), (tInt K)])) (fun (s : mlaw_L2T) => (mlaw_c5 s).2)) (.dead .nil)))))))) rfl rfl (by exact rfl)) <|
      DM.ofN <|
      DN.fin rfl
    ) (.keep (sl := .fz (tScr K) (fun (s : mlaw_S) => s.1)) (.dead (.dead (.dead (.dead (.dead (.dead .nil)))))))) rfl rfl (by exact rfl)) <|
    DR.ret (f := fun (s : mlaw_S) => true) DX.tru (OwnAll.all (by exact trivial)) (.fz .nil) ⟨rfl, fun _ => HEq.rfl, fun _ => rfl⟩
    ) (by exact fun _ => (hide_eq _).symm) (by exact fun _ h => h)
end
end Lw

namespace Lw
open PySem PySem.Spec PyProof.Rows L2 Dx
/-! ### numbers -/
theorem bits_lt {v : Int} {k : Nat} (h0 : 0 ≤ v) (h : v < 2 ^ k) : Builtin.Int.intBits v ≤ k := by
  unfold Builtin.Int.intBits
  split
  · exact Nat.zero_le _
  · rename_i n
    have h1 : v.natAbs < 2 ^ k := by
      have e : ((2 ^ k : Nat) : Int) = (2 : Int) ^ k := by simp
      omega
    have h2 : v.natAbs ≠ 0 := fun z => n (by simp; omega)
    exact (Nat.log2_lt h2).mpr h1
theorem pow_ok {v : Int} {j : Int} {k : Nat} (h0 : 0 ≤ v) (h : v < 2 ^ k) (hj : 0 ≤ j) (hk : (k : Int) * j ≤ 134217728) : CPowX v j := by
  refine ⟨hj, ?_⟩
  have h1 : (Builtin.Int.intBits v : Int) ≤ k := by exact_mod_cast bits_lt h0 h
  have h2 : (Builtin.Int.intBits v : Int) * j ≤ (k : Int) * j := Int.mul_le_mul_of_nonneg_right h1 hj
  have : (2 : Int) ^ 27 = 134217728 := by decide
  omega
theorem mul_ok {i j : Int} (h : i.natAbs + j.natAbs < 16777216) : CMulX i j := by
  have h1 := Nat.log2_le_self i.natAbs
  have h2 := Nat.log2_le_self j.natAbs
  unfold CMulX
  omega
theorem log_lt {n k : Nat} (h : n < 2 ^ k) (hk : 0 < k) : n.log2 < k := by
  by_cases e : n = 0
  · subst e
    simpa using hk
  · exact (Nat.log2_lt e).mpr h
/-! ### the draws -/
def Good (n : Nat) (b : List Int) : Prop := ∃ x y z : Int, b = [x, y, z] ∧ 0 ≤ x ∧ 0 ≤ y ∧ y < 2 ^ 400 ∧ 0 ≤ z ∧ z ≤ n
theorem Good.mono {n m : Nat} {b : List Int} (h : Good n b) (hn : n ≤ m) : Good m b := by
  obtain ⟨x, y, z, e, h1, h2, h3, h4, h5⟩ := h
  exact ⟨x, y, z, e, h1, h2, h3, h4, by omega⟩
theorem mul_big {i j : Int} (hi : i.natAbs.log2 ≤ 40) (h : j.natAbs < 16000000) : CMulX i j := by
  have h2 := Nat.log2_le_self j.natAbs
  unfold CMulX
  omega
theorem src_pre {c k : Int} (h0 : 0 ≤ k) (h1 : k < 1000) : m_law_source_p (c, k, ()) := by
  refine ⟨pow_ok (k := 4) (by decide) (by decide) (by decide) (by decide), pow_ok (k := 4) (by decide) (by decide) (by decide) (by decide), ?_, ?_, ?_, trivial⟩
  · show (0 : Int) < 10 ^ 38 + 133
    decide
  · refine pow_ok (k := 128) (v := c % (10 ^ 38 + 133)) (Int.emod_nonneg _ (by decide)) (Int.lt_trans (Int.emod_lt_of_pos _ (by decide)) (by decide)) (by decide) (by decide)
  · exact mul_big (i := 857567) (j := k) (by decide) (by omega)
theorem cube_le {a b : Int} (h0 : 0 ≤ a) (h : a ≤ b) : a ^ 3 ≤ b ^ 3 := by
  have e : ∀ x : Int, x ^ 3 = x * x * x := fun x => by rw [Int.pow_succ, Int.pow_succ, Int.pow_succ, Int.pow_zero, Int.one_mul]
  rw [e, e]
  exact Int.mul_le_mul (Int.mul_le_mul h h h0 (by omega)) h h0 (Int.mul_nonneg (by omega) (by omega))
theorem src_good {c k : Int} (h0 : 0 ≤ k) (h1 : k < 1000) : Good 0 (m_law_source (c, k, ())) := by
  unfold m_law_source
  rw [hide_eq]
  have a0 : 0 ≤ c % (10 ^ 38 + 133) := Int.emod_nonneg _ (by decide)
  have a1 : c % (10 ^ 38 + 133) < 10 ^ 38 + 133 := Int.emod_lt_of_pos _ (by decide)
  have a2 : (c % (10 ^ 38 + 133)) ^ 3 ≤ (10 ^ 38 + 133) ^ 3 := cube_le a0 (by omega)
  have a3 : 0 ≤ (c % (10 ^ 38 + 133)) ^ 3 := Int.pow_nonneg a0
  refine ⟨_, _, _, rfl, by omega, ?_, ?_, by decide, by decide⟩
  · show 0 ≤ (c % (10 ^ 38 + 133)) ^ 3 + 857567 * k + 223606797749978969
    omega
  · show (c % (10 ^ 38 + 133)) ^ 3 + 857567 * k + 223606797749978969 < 2 ^ 400
    have : ((10 : Int) ^ 38 + 133) ^ 3 + 857567 * 1000 + 223606797749978969 < 2 ^ 400 := by decide
    omega
/-- what a draw says -/
theorem draw {n : Nat} {b : List Int} {c : Int} (g : Good n b) (hn : n ≤ 1000000) (h0 : 0 < c) (h1 : c.natAbs.log2 < 9000) : m_law_draw_p (b, c, ()) ∧ Good (n + 1) (m_law_draw (b, c, ())).1 ∧ 0 ≤ (m_law_draw (b, c, ())).2 ∧ (m_law_draw (b, c, ())).2 < c := by
  obtain ⟨x, y, z, rfl, hx, hy, hy2, hz, hz2⟩ := g
  have i0 : IxOk ([x, y, z] : List Int) 0 := ⟨by simp, by simp⟩
  have i2 : IxOk ([x, y, z] : List Int) 2 := ⟨by simp, by simp⟩
  have j1 : IxOk ([x, y, z + 1] : List Int) 1 := ⟨by simp, by simp⟩
  have j2 : IxOk ([x, y, z + 1] : List Int) 2 := ⟨by simp, by simp⟩
  obtain ⟨y2, ey2⟩ : ∃ y2, y2 = (y ^ 3 + 479001599 * (z + 1) + 5) % (10 ^ 33 + 61) := ⟨_, rfl⟩
  have es : m_law_draw_v_source_here_3 ([x, y, z], c, ()) = [x, y, z + 1] := rfl
  have es4 : m_law_draw_v_source_here_4 ([x, y, z], c, ()) = [x, y2, z + 1] := by rw [ey2]; rfl
  have y2a : 0 ≤ y2 := by rw [ey2]; exact Int.emod_nonneg _ (by decide)
  have y2b : y2 < 10 ^ 33 + 61 := by rw [ey2]; exact Int.emod_lt_of_pos _ (by decide)
  have k1 : IxOk ([x, y2, z + 1] : List Int) 1 := ⟨by simp, by simp⟩
  have p10 : ∀ j : Int, 0 ≤ j → j ≤ 1000 → CPowX 10 j := fun j a b => pow_ok (k := 4) (by decide) (by decide) a (by omega)
  refine ⟨⟨i0, ?_, trivial⟩, ?_⟩
  · show if decide (0 < x) = true then _ else _
    split
    · exact ⟨i0, h0, i0, ⟨h0, h1⟩, i0, trivial⟩
    · refine ⟨i2, i2, j1, pow_ok (k := 400) hy hy2 (by decide) (by decide), j2, mul_big (i := 479001599) (j := z + 1) (by decide) (by omega), p10 33 (by decide) (by decide), (by decide : (0 : Int) < 10 ^ 33 + 61), j1, ?_, p10 8 (by decide) (by decide), ⟨by decide, by decide⟩, h0, trivial⟩
      show IxOk (m_law_draw_v_source_here_4 ([x, y, z], c, ())) 1
      rw [es4]; exact k1
  · unfold m_law_draw
    rw [hide_eq]
    show Good (n + 1) (if decide (0 < x) = true then _ else _ : List Int × Int).1 ∧ _
    by_cases hx0 : 0 < x
    · simp only [show ixI (0 : Int) ([x, y, z], c, ()).1 0 = x from rfl, hx0, decide_true, if_true]
      exact ⟨⟨x / c, y, z, rfl, Int.ediv_nonneg hx (by omega), hy, hy2, hz, by omega⟩, Int.emod_nonneg _ (show c ≠ 0 by omega), Int.emod_lt_of_pos _ h0⟩
    · simp only [show ixI (0 : Int) ([x, y, z], c, ()).1 0 = x from rfl, hx0, decide_false, Bool.false_eq_true, if_false]
      refine ⟨⟨x, y2, z + 1, es4, hx, y2a, ?_, by omega, by omega⟩, Int.emod_nonneg _ (show c ≠ 0 by omega), Int.emod_lt_of_pos _ h0⟩
      have : (10 : Int) ^ 33 + 61 < 2 ^ 400 := by decide
      omega
end Lw

namespace Lw
open PySem PySem.Spec PyProof.Rows L2 Dx
/-! ### loops -/
theorem loop_inv {M α : Type} {step : M → α → M} {c : M → α → Prop} (I : Nat → M → Prop) : ∀ (xs : List α) (k : Nat) (m : M), I k m → (∀ j m x, k ≤ j → j < k + xs.length → x ∈ xs → I j m → c m x ∧ I (j + 1) (step m x)) → loopC c step xs m ∧ I (k + xs.length) (loopF step xs m)
  | [], k, m, h, _ => ⟨trivial, h⟩
  | x :: xs, k, m, h, hs => by
    obtain ⟨h1, h2⟩ := hs k m x (Nat.le_refl _) (by simp) (List.mem_cons_self ..) h
    obtain ⟨h3, h4⟩ := loop_inv I xs (k + 1) (step m x) h2 fun j m y hj hj2 hy => hs j m y (by omega) (by simp; omega) (List.mem_cons_of_mem _ hy)
    refine ⟨⟨h1, h3⟩, ?_⟩
    rw [show k + (x :: xs).length = k + 1 + xs.length by simp; omega]
    exact h4
theorem rangeL_len (n : Int) : (rangeL n).length = n.toNat := by simp [rangeL]
/-! ### lists of four -/
theorem ix_of {α : Type} {d : α} {xs : List α} {i : Int} {j : Nat} (h : i = (j : Int)) (hj : j < xs.length) : ixI d xs i = xs[j] := by
  subst h
  unfold ixI
  rw [if_pos (by omega)]
  simp [hj]
theorem ix_all {α : Type} {d : α} {xs : List α} {i : Int} (P : α → Prop) (h : IxOk xs i) (hp : ∀ x ∈ xs, P x) : P (ixI d xs i) := by
  obtain ⟨j, _, e⟩ := ix_at (d := d) h
  exact hp _ (List.mem_of_getElem? e)
theorem ten30 : (10 : Int) ^ ((30 : Int)).toNat = 1000000000000000000000000000000 := by decide
theorem ten9 : (10 : Int) ^ ((9 : Int)).toNat = 1000000000 := by decide
/-- the size -/
theorem size_ok {n : Nat} {b sc : List Int} (g : Good n b) (hn : n ≤ 999990) : m_law_size_p (b, sc, ()) ∧ Good (n + 6) (m_law_size (b, sc, ())).1 ∧ 1 ≤ (m_law_size (b, sc, ())).2 ∧ (m_law_size (b, sc, ())).2 ≤ 1000000000000000000000000000000 := by
  obtain ⟨p1, g1, a1, b1⟩ := draw (c := 6) g (by omega) (by decide) (by decide)
  obtain ⟨p2, g2, a2, b2⟩ := draw (c := 40) g1 (by omega) (by decide) (by decide)
  obtain ⟨p3, g3, a3, b3⟩ := draw (c := 200) g2 (by omega) (by decide) (by decide)
  obtain ⟨p4, g4, a4, b4⟩ := draw (c := 1000) g3 (by omega) (by decide) (by decide)
  obtain ⟨p5, g5, a5, b5⟩ := draw (c := 2) g4 (by omega) (by decide) (by decide)
  obtain ⟨p6, g6, a6, b6⟩ := draw (c := 5) g5 (by omega) (by decide) (by decide)
  have hl : (m_law_size_v_some_7 (b, sc, ())).length = 5 := rfl
  have hix : IxOk (m_law_size_v_some_7 (b, sc, ())) (m_law_size_c8 (b, sc, ())).2 := by
    unfold IxOk
    rw [hl]
    exact ⟨by have : 0 ≤ (m_law_size_c8 (b, sc, ())).2 := a6; omega, by have : (m_law_size_c8 (b, sc, ())).2 < 5 := b6; omega⟩
  have hall : ∀ x ∈ m_law_size_v_some_7 (b, sc, ()), 1 ≤ x ∧ x ≤ 1000000000000000000000000000000 := by
    intro x hx
    have e1 : 0 ≤ (m_law_size_c1 (b, sc, ())).2 := a1
    have e1' : (m_law_size_c1 (b, sc, ())).2 < 6 := b1
    have e2 : 0 ≤ (m_law_size_c2 (b, sc, ())).2 := a2
    have e2' : (m_law_size_c2 (b, sc, ())).2 < 40 := b2
    have e3 : 0 ≤ (m_law_size_c3 (b, sc, ())).2 := a3
    have e3' : (m_law_size_c3 (b, sc, ())).2 < 200 := b3
    have e5 : 0 ≤ (m_law_size_c5 (b, sc, ())).2 := a4
    have e5' : (m_law_size_c5 (b, sc, ())).2 < 1000 := b4
    have e6 : 0 ≤ (m_law_size_c6 (b, sc, ())).2 := a5
    have e6' : (m_law_size_c6 (b, sc, ())).2 < 2 := b5
    have hx' : x = 1 + (m_law_size_c1 (b, sc, ())).2 ∨ x = 1 + (m_law_size_c2 (b, sc, ())).2 ∨ x = 1 + (m_law_size_c3 (b, sc, ())).2 ∨ x = (10 : Int) ^ ((9 : Int)).toNat + (m_law_size_c5 (b, sc, ())).2 ∨ x = (10 : Int) ^ ((30 : Int)).toNat - (m_law_size_c6 (b, sc, ())).2 := by
      simpa [m_law_size_v_some_7, m_law_size_v_some_4] using hx
    rw [ten30, ten9] at hx'
    omega
  refine ⟨⟨p1, p2, p3, pow_ok (k := 4) (by decide) (by decide) (by decide) (by decide), p4, pow_ok (k := 4) (by decide) (by decide) (by decide) (by decide), p5, (by decide : 5 ≤ sizeLine), fun _ => p6, fun _ => hix, trivial⟩, ?_⟩
  unfold m_law_size
  rw [hide_eq]
  refine ⟨?_, ?_⟩
  · show Good (n + 6) (if (dfList dfInt).eq sc ([] : List Int) = true then (m_law_size_c6 (b, sc, ())).1 else (m_law_size_c8 (b, sc, ())).1)
    split
    · exact g5.mono (by omega)
    · exact g6.mono (by omega)
  · show 1 ≤ (if (dfList dfInt).eq sc ([] : List Int) = true then (5 : Int) else (ixI (0 : Int) (m_law_size_v_some_7 (b, sc, ())) (m_law_size_c8 (b, sc, ())).2)) ∧ (if (dfList dfInt).eq sc ([] : List Int) = true then (5 : Int) else (ixI (0 : Int) (m_law_size_v_some_7 (b, sc, ())) (m_law_size_c8 (b, sc, ())).2)) ≤ _
    split
    · omega
    · exact ix_all (fun x => 1 ≤ x ∧ x ≤ 1000000000000000000000000000000) hix hall
/-! ### selections -/
def Sel (n : Int) (l : List (Int × Int)) : Prop := (∀ r ∈ l, 0 ≤ r.1 ∧ r.1 ≤ r.2 ∧ r.2 < n) ∧ l.Pairwise fun a b => a.2 + 1 < b.1
theorem Sel.nil {n : Int} : Sel n [] := ⟨fun _ h => (nomatch h), .nil⟩
theorem Sel.sub {n : Int} {l l' : List (Int × Int)} (h : Sel n l) (s : l'.Sublist l) : Sel n l' := ⟨fun r hr => h.1 r (s.subset hr), h.2.sublist s⟩
theorem Sel.erase {n : Int} {l : List (Int × Int)} (h : Sel n l) (i : Int) : Sel n (eraseI l i) := h.sub (List.eraseIdx_sublist _ _)
theorem Sel.snoc {n a b : Int} {l : List (Int × Int)} (h : Sel n l) (h0 : 0 ≤ a) (h1 : a ≤ b) (h2 : b < n) (hf : ∀ r ∈ l, r.2 + 1 < a) : Sel n (l ++ [(a, b)]) := by
  refine ⟨fun r hr => ?_, List.pairwise_append.mpr ⟨h.2, List.pairwise_singleton .., fun x hx y hy => ?_⟩⟩
  · rcases List.mem_append.mp hr with z | z
    · exact h.1 r z
    · rw [List.mem_singleton.mp z]; exact ⟨h0, h1, h2⟩
  · rw [List.mem_singleton.mp hy]; exact hf x hx
end Lw

namespace Lw
open PySem PySem.Spec PyProof.Rows L2 Dx
theorem ix_last {α : Type} {d r : α} {l : List α} : ixI d (l ++ [r]) (-1) = r := by
  unfold ixI
  rw [if_neg (by decide), List.length_append, List.length_singleton, show ((-1 : Int) + ((l.length + 1 : Nat) : Int)).toNat = l.length by omega]
  simp
theorem set_last {α : Type} {r v : α} {l : List α} : setI (l ++ [r]) (-1) v = l ++ [v] := by
  unfold setI
  rw [if_neg (by decide), List.length_append, List.length_singleton, show ((-1 : Int) + ((l.length + 1 : Nat) : Int)).toNat = l.length by omega]
  simp
theorem ixOk_last {α : Type} {l : List α} (h : l ≠ []) : IxOk l (-1) := by
  have : 0 < l.length := List.length_pos_iff.mpr h
  exact ⟨by omega, by omega⟩
theorem Sel.last {n e : Int} {l : List (Int × Int)} {r : Int × Int} (h : Sel n (l ++ [r])) (h1 : r.1 ≤ e) (h2 : e < n) : Sel n (l ++ [(r.1, e)]) := by
  obtain ⟨p, q⟩ := h
  obtain ⟨q1, q2, q3⟩ := List.pairwise_append.mp q
  exact Sel.snoc ⟨fun x hx => p x (List.mem_append_left _ hx), q1⟩ (p r (by simp)).1 h1 h2 fun x hx => q3 x hx r (by simp)
theorem snoc_of {α : Type} {l : List α} (h : l ≠ []) : ∃ l0 r, l = l0 ++ [r] := ⟨_, _, (List.dropLast_concat_getLast h).symm⟩
theorem Sel.put {n : Int} {l : List (Int × Int)} {d : Int × Int} (h : Sel n l) (hl : 1 < l.length) : Sel n (putL l none (some ((l.length : Int) / 2)) [((ixI d l 0).1, (ixI d l ((l.length : Int) / 2 - 1)).2)]) ∧ (putL l none (some ((l.length : Int) / 2)) [((ixI d l 0).1, (ixI d l ((l.length : Int) / 2 - 1)).2)]).length ≤ l.length := by
  have hk : ((l.length : Int) / 2) = ((l.length / 2 : Nat) : Int) := by omega
  have hk2 : (l.length : Int) / 2 - 1 = ((l.length / 2 - 1 : Nat) : Int) := by omega
  have e0 : ixI d l 0 = l[0]'(by omega) := ix_of (j := 0) rfl (by omega)
  have e1 : ixI d l ((l.length : Int) / 2 - 1) = l[l.length / 2 - 1]'(by omega) := ix_of hk2 (by omega)
  have ep : ∀ y, putL l none (some ((l.length : Int) / 2)) y = y ++ l.drop (l.length / 2) := fun y => by
    unfold putL
    rw [hk, show HT.sIx l.length l.length (some ((l.length / 2 : Nat) : Int)) = min (l.length / 2) l.length from HT.sIx_nat ..]
    rw [show HT.sIx l.length 0 none = 0 from HT.sIx_none ..]
    rw [show max 0 (min (l.length / 2) l.length) = l.length / 2 by omega]
    simp
  rw [ep, e0, e1]
  obtain ⟨p, q⟩ := h
  have q' := q
  rw [← List.take_append_drop (l.length / 2) l] at q'
  obtain ⟨q1, q2, q3⟩ := List.pairwise_append.mp q'
  have m0 : l[l.length / 2 - 1]'(by omega) ∈ l.take (l.length / 2) := by
    rw [List.mem_take_iff_getElem]
    exact ⟨l.length / 2 - 1, by omega, rfl⟩
  have v0 := p _ (List.getElem_mem (l := l) (n := 0) (by omega))
  have v1 := p _ (List.getElem_mem (l := l) (n := l.length / 2 - 1) (by omega))
  have le : (l[0]'(by omega)).1 ≤ (l[l.length / 2 - 1]'(by omega)).2 := by
    by_cases z : l.length / 2 - 1 = 0
    · simp only [z]
      exact v0.2.1
    · have := List.pairwise_iff_getElem.mp q 0 (l.length / 2 - 1) (by omega) (by omega) (by omega)
      omega
  refine ⟨⟨fun r hr => ?_, ?_⟩, ?_⟩
  · rcases List.mem_append.mp hr with z | z
    · rw [List.mem_singleton.mp z]
      exact ⟨v0.1, le, v1.2.2⟩
    · exact p r (List.mem_of_mem_drop z)
  · refine List.pairwise_append.mpr ⟨List.pairwise_singleton .., q2, fun x hx y hy => ?_⟩
    rw [List.mem_singleton.mp hx]
    exact q3 _ m0 y hy
  · rw [List.length_append, List.length_drop, List.length_singleton]
    omega
end Lw

namespace Lw
open PySem PySem.Spec PyProof.Rows L2 Dx
theorem df_t {α : Type} {d : DF α} {x y : α} : d.eq x y = true ↔ x = y := @decide_eq_true_iff _ (d.dec x y)
theorem df_f {α : Type} {d : DF α} {x y : α} : d.eq x y = false ↔ x ≠ y := @decide_eq_false_iff_not _ (d.dec x y)
theorem line_big : 100000 ≤ sizeLine := by decide
theorem rg_ok {n : Int} (h0 : 0 ≤ n) (h1 : n ≤ 100000) : RgOk n := ⟨Int.le_trans (by decide) h0, Int.le_trans h1 (Int.ofNat_le.mpr line_big)⟩
theorem wide_ok {z : Int} {n : Nat} (h : z ≤ 1000000000000000000000000000000) (h0 : 0 ≤ z) : z.natAbs.log2 < 9000 := by
  have h1 : z.natAbs < 2 ^ 100 := by
    have e : ((2 ^ 100 : Nat) : Int) = (2 : Int) ^ 100 := by decide
    have : (1000000000000000000000000000000 : Int) < 2 ^ 100 := by decide
    omega
  have := log_lt h1 (by decide)
  omega
theorem loop_none {M α R : Type} {step : M → α → M} {c : M → α → Prop} {r : M → α → Option R} (I : Nat → M → Prop) : ∀ (xs : List α) (k : Nat) (m : M), I k m → (∀ j m x, j < k + xs.length → x ∈ xs → I j m → c m x ∧ r m x = none ∧ I (j + 1) (step m x)) → loopCr c r step xs m ∧ loopR r step xs m = none
  | [], k, m, h, _ => ⟨trivial, rfl⟩
  | x :: xs, k, m, h, hs => by
    obtain ⟨h1, h2, h3⟩ := hs k m x (by simp) (List.mem_cons_self ..) h
    obtain ⟨h4, h5⟩ := loop_none I xs (k + 1) (step m x) h3 fun j m y hj hy => hs j m y (by simp; omega) (List.mem_cons_of_mem _ hy)
    refine ⟨⟨h1, fun _ => h4⟩, ?_⟩
    unfold loopR
    rw [h2]
    exact h5
theorem mem_range {n i : Int} : i ∈ rangeL n ↔ 0 ≤ i ∧ i < n := by
  unfold rangeL
  rw [List.mem_map]
  constructor
  · rintro ⟨k, hk, e⟩
    rw [List.mem_range] at hk
    omega
  · rintro ⟨h1, h2⟩
    exact ⟨i.toNat, List.mem_range.mpr (by omega), by omega⟩
theorem len_log {α : Type} {l : List α} (h : l.length ≤ 1000) : (l.length : Int).natAbs.log2 < 9000 := by
  have := Nat.log2_le_self (l.length : Int).natAbs
  omega
end Lw

namespace Lw
open PySem PySem.Spec PyProof.Rows L2 Dx
end Lw

namespace Lw
open PySem PySem.Spec PyProof.Rows L2 Dx
theorem isint {v lo hi : Int} : mis_integer (v, lo, hi, ()) = true ↔ lo ≤ v ∧ v ≤ hi := by
  unfold mis_integer
  rw [hide_eq]
  show (true && ((!false) && (decide (lo ≤ v) && decide (v ≤ hi)))) = true ↔ _
  simp
theorem lcV_t {α β : Type} (xs : List α) (f : α → β) : lcV xs (fun _ => true) f = xs.map f := by
  unfold lcV
  rw [List.filter_eq_self.mpr fun _ _ => rfl]
theorem cut_one {α : Type} (xs : List α) : cutL xs (some 1) none = xs.drop 1 := by
  unfold cutL
  rw [show HT.sIx xs.length 0 (some 1) = min 1 xs.length from HT.sIx_nat xs.length 0 1, HT.sIx_none]
  cases xs with
  | nil => rfl
  | cons x r =>
    rw [show min 1 (x :: r).length = 1 by simp]
    exact List.take_of_length_le (by simp)
theorem zip_next {α : Type} {R : α → α → Prop} : ∀ {l : List α}, l.Pairwise R → ∀ p ∈ List.zip l (l.drop 1), R p.1 p.2
  | [], _, p, h => by simp at h
  | [x], _, p, h => by simp at h
  | x :: y :: r, hp, p, h => by
    obtain ⟨h1, h2⟩ := List.pairwise_cons.mp hp
    have h' : p ∈ (x, y) :: List.zip (y :: r) ((y :: r).drop 1) := h
    rcases List.mem_cons.mp h' with e | e
    · rw [e]; exact h1 y (List.mem_cons_self ..)
    · exact zip_next h2 p e
theorem isrun {z : Int} {r : Int × Int} (h : 0 ≤ r.1 ∧ r.1 ≤ r.2 ∧ r.2 < z) : mis_run_p (z, r, ()) ∧ mis_run (z, r, ()) = true := by
  have h1 : mis_run_c1 (z, r, ()) = true := isint.mpr ⟨h.1, by show r.1 ≤ z - 1; omega⟩
  have h2 : mis_run_c2 (z, r, ()) = true := isint.mpr ⟨h.2.1, by show r.2 ≤ z - 1; omega⟩
  refine ⟨⟨fun _ _ => trivial, ?_, trivial⟩, ?_⟩
  · show if _ then _ else _
    split
    · trivial
    · exact ⟨trivial, trivial⟩
  · unfold mis_run
    rw [hide_eq, h1, h2]
    rfl
theorem areruns {z : Int} {l : List (Int × Int)} (h : Sel z l) : mare_runs_p (z, l, ()) ∧ mare_runs (z, l, ()) = true := by
  refine ⟨⟨fun _ r hr => ⟨trivial, fun _ => ⟨(isrun (h.1 r hr)).1, trivial⟩⟩, ?_, trivial⟩, ?_⟩
  · show if _ then _ else _
    split
    · trivial
    · exact ⟨fun _ _ => ⟨trivial, fun _ => trivial⟩, trivial⟩
  · unfold mare_runs
    rw [hide_eq]
    have h1 : (lcV l (fun x => true) fun x => mare_runs_c1 ((z, l, ()), x)).all id = true := by
      rw [lcV_t]
      simp only [List.all_map, List.all_eq_true]
      exact fun r hr => (isrun (h.1 r hr)).2
    have h2 : (lcV (List.zip l (cutL l (some 1) none)) (fun x => true) fun x => decide (x.1.2 + 1 < x.2.1)).all id = true := by
      rw [lcV_t, cut_one]
      simp only [List.all_map, List.all_eq_true]
      exact fun p hp => decide_eq_true (zip_next h.2 p hp)
    show (if ((!true) || !((lcV l (fun x => true) fun x => mare_runs_c1 ((z, l, ()), x)).all id)) = true then false else (lcV (List.zip l (cutL l (some 1) none)) (fun x => true) fun x => decide (x.1.2 + 1 < x.2.1)).all id) = true
    rw [h1, h2]
    rfl
/-- in one of the runs -/
def inRuns (l : List (Int × Int)) (p : Int) : Bool := l.any fun r => decide (r.1 ≤ p) && decide (p ≤ r.2)
end Lw

/-! Selections, their borders: plain facts. -/
namespace Sx
open PySem Dx
/-! ### slices with a step -/
theorem step_rev {α : Type} (xs : List α) : stepL xs none none (some (-1)) = xs.reverse := by
  unfold stepL
  have e : sliceBounds none none (some (-1)) xs.length = ((xs.length : Int) - 1, -1, -1) := rfl
  rw [e]
  show List.filterMap (xs[·]?) (sliceRange ((xs.length : Int) - 1) (-1) (-1)) = _
  have e2 : sliceRange ((xs.length : Int) - 1) (-1) (-1) = (List.range xs.length).map fun k => xs.length - 1 - k := by
    unfold sliceRange
    have h : ¬ ((-1 : Int) > 0) := by decide
    simp only [h, if_false]
    have h2 : (if (xs.length : Int) - 1 > -1 then ((xs.length : Int) - 1 - -1 - -1 - 1) / (- -1) else 0) = xs.length := by
      split
      · have : ((xs.length : Int) - 1 - -1 - -1 - 1) = xs.length := by omega
        rw [this]
        have : (- -1 : Int) = 1 := by decide
        rw [this, Int.ediv_one]
      · omega
    rw [h2, Int.toNat_natCast]
    apply List.map_congr_left
    intro k hk
    rw [List.mem_range] at hk
    omega
  rw [e2, List.filterMap_map]
  apply List.ext_getElem?
  intro i
  by_cases hi : i < xs.length
  · have key : ∀ n, n ≤ xs.length → (List.filterMap ((fun x => xs[x]?) ∘ fun k => xs.length - 1 - k) (List.range n)) = (xs.reverse).take n := by
      intro n
      induction n with
      | zero => intro _; simp
      | succ n ih =>
        intro hn
        rw [List.range_succ, List.filterMap_append, ih (by omega), List.take_add_one]
        congr 1
        have h1 : xs[xs.length - 1 - n]? = some (xs[xs.length - 1 - n]'(by omega)) := List.getElem?_eq_getElem (by omega)
        simp only [List.filterMap_cons, List.filterMap_nil, Function.comp, h1]
        rw [List.getElem?_reverse (by omega), h1]
        rfl
    rw [key xs.length (Nat.le_refl _), List.take_of_length_le (by simp)]
  · have key : (List.filterMap ((fun x => xs[x]?) ∘ fun k => xs.length - 1 - k) (List.range xs.length)).length ≤ xs.length := by
      refine Nat.le_trans (List.length_filterMap_le _ _) ?_
      simp
    rw [List.getElem?_eq_none (by omega), List.getElem?_eq_none (by simp; omega)]
/-- every second one -/
def evens {α : Type} : List α → List α
  | a :: _ :: r => a :: evens r
  | [a] => [a]
  | [] => []
theorem evens_get {α : Type} : ∀ (xs : List α) (i : Nat), (evens xs)[i]? = xs[2 * i]?
  | [], i => by simp [evens]
  | [a], 0 => rfl
  | [a], i + 1 => by simp [evens]
  | a :: b :: r, 0 => rfl
  | a :: b :: r, i + 1 => by
    show (evens r)[i]? = _
    rw [evens_get r i, show 2 * (i + 1) = 2 * i + 1 + 1 by omega]
    rfl
theorem evens_len {α : Type} : ∀ xs : List α, (evens xs).length = (xs.length + 1) / 2
  | [] => by simp [evens]
  | [a] => by simp [evens]
  | a :: b :: r => by show (evens r).length + 1 = (r.length + 1 + 1 + 1) / 2; rw [evens_len r]; omega
theorem step2 {α : Type} (xs : List α) (lo : Nat) (hlo : lo ≤ 1) : stepL xs (if lo = 0 then none else some 1) none (some 2) = evens (xs.drop lo) := by
  unfold stepL
  have e : sliceBounds (if lo = 0 then none else some 1) none (some 2) xs.length = (((min lo xs.length : Nat) : Int), (xs.length : Int), 2) := by
    have : lo = 0 ∨ lo = 1 := by omega
    rcases this with rfl | rfl
    · simp [sliceBounds]
    · simp only [sliceBounds, Option.getD_some, show ¬ (1 : Nat) = 0 by decide, if_false, show (2 : Int) > 0 by decide, if_true]
      have : ¬ ((1 : Int) < 0) := by decide
      simp only [this, if_false]
      congr 1
      omega
  rw [e]
  show List.filterMap (xs[·]?) (sliceRange ((min lo xs.length : Nat) : Int) (xs.length : Int) 2) = _
  have e2 : sliceRange ((min lo xs.length : Nat) : Int) (xs.length : Int) 2 = (List.range ((xs.length - min lo xs.length + 1) / 2)).map fun k => min lo xs.length + 2 * k := by
    unfold sliceRange
    simp only [show (2 : Int) > 0 by decide, if_true]
    have h2 : (if ((min lo xs.length : Nat) : Int) < (xs.length : Int) then ((xs.length : Int) - ((min lo xs.length : Nat) : Int) + 2 - 1) / 2 else 0) = (((xs.length - min lo xs.length + 1) / 2 : Nat) : Int) := by
      split <;> omega
    rw [h2, Int.toNat_natCast]
    apply List.map_congr_left
    intro k hk
    omega
  rw [e2, List.filterMap_map]
  have hl : (evens (xs.drop lo)).length = (xs.length - min lo xs.length + 1) / 2 := by
    rw [evens_len, List.length_drop]; omega
  have key : ∀ n, n ≤ (xs.length - min lo xs.length + 1) / 2 → (List.filterMap ((fun x => xs[x]?) ∘ fun k => min lo xs.length + 2 * k) (List.range n)) = (evens (xs.drop lo)).take n := by
    intro n
    induction n with
    | zero => intro _; simp
    | succ n ih =>
      intro hn
      rw [List.range_succ, List.filterMap_append, ih (by omega), List.take_add_one]
      congr 1
      have hlt : min lo xs.length + 2 * n < xs.length := by omega
      have h1 : xs[min lo xs.length + 2 * n]? = some (xs[min lo xs.length + 2 * n]'hlt) := List.getElem?_eq_getElem hlt
      simp only [List.filterMap_cons, List.filterMap_nil, Function.comp, h1]
      rw [evens_get, List.getElem?_drop, show lo + 2 * n = min lo xs.length + 2 * n by omega, h1]
      rfl
  rw [key _ (Nat.le_refl _), List.take_of_length_le (by omega)]
theorem step2a {α : Type} (xs : List α) : stepL xs none none (some 2) = evens xs := step2 xs 0 (by decide)
theorem step2b {α : Type} (xs : List α) : stepL xs (some 1) none (some 2) = evens (xs.drop 1) := step2 xs 1 (by decide)
/-! ### borders -/
def bords : List (Int × Int) → List Int
  | [] => []
  | r :: l => r.1 :: (r.2 + 1) :: bords l
def fromB : List Int → List (Int × Int)
  | a :: b :: r => (a, b - 1) :: fromB r
  | _ => []
abbrev Asc (bs : List Int) : Prop := bs.Pairwise (· < ·)
def Sel (n : Int) (l : List (Int × Int)) : Prop := (∀ r ∈ l, 0 ≤ r.1 ∧ r.1 ≤ r.2 ∧ r.2 < n) ∧ l.Pairwise fun a b => a.2 + 1 < b.1
theorem fromB_zip : ∀ bs : List Int, (List.zip (evens bs) (evens (bs.drop 1))).map (fun x => (x.1, x.2 - 1)) = fromB bs
  | [] => rfl
  | [a] => rfl
  | a :: b :: r => by
    have h : evens ((a :: b :: r).drop 1) = b :: evens (r.drop 1) := by
      cases r <;> rfl
    show (List.zip (a :: evens r) (evens ((a :: b :: r).drop 1))).map _ = _
    rw [h]
    show (a, b - 1) :: (List.zip (evens r) (evens (r.drop 1))).map _ = _
    rw [fromB_zip r]
    rfl
theorem bords_len : ∀ l, (bords l).length = 2 * l.length
  | [] => rfl
  | r :: l => by show (bords l).length + 1 + 1 = 2 * (l.length + 1); rw [bords_len l]; omega
theorem fromB_len : ∀ bs, (fromB bs).length = bs.length / 2
  | [] => rfl
  | [a] => by simp [fromB]
  | a :: b :: r => by show (fromB r).length + 1 = (r.length + 1 + 1) / 2; rw [fromB_len r]; omega
theorem fromB_bords : ∀ l, fromB (bords l) = l
  | [] => rfl
  | (a, b) :: l => by
    show (a, b + 1 - 1) :: fromB (bords l) = _
    rw [fromB_bords l, show b + 1 - 1 = b by omega]
theorem bords_fromB : ∀ bs : List Int, bs.length % 2 = 0 → bords (fromB bs) = bs
  | [], _ => rfl
  | [a], h => by simp at h
  | a :: b :: r, h => by
    show a :: (b - 1 + 1) :: bords (fromB r) = _
    rw [bords_fromB r (by simp at h; omega), show b - 1 + 1 = b by omega]
theorem bords_mem : ∀ {l : List (Int × Int)} {x : Int}, x ∈ bords l → ∃ r ∈ l, x = r.1 ∨ x = r.2 + 1
  | r :: l, x, h => by
    rcases List.mem_cons.mp h with h | h
    · exact ⟨r, List.mem_cons_self, .inl h⟩
    · rcases List.mem_cons.mp h with h | h
      · exact ⟨r, List.mem_cons_self, .inr h⟩
      · obtain ⟨q, hq, e⟩ := bords_mem h
        exact ⟨q, List.mem_cons_of_mem _ hq, e⟩
theorem Sel.tail {n : Int} {r : Int × Int} {l : List (Int × Int)} (h : Sel n (r :: l)) : Sel n l := ⟨fun x hx => h.1 x (List.mem_cons_of_mem _ hx), (List.pairwise_cons.mp h.2).2⟩
theorem Sel.bord {n : Int} {l : List (Int × Int)} (h : Sel n l) : ∀ x ∈ bords l, 0 ≤ x ∧ x ≤ n := fun x hx => by
  obtain ⟨r, hr, e⟩ := bords_mem hx
  have := h.1 r hr
  omega
theorem Sel.asc {n : Int} : ∀ {l : List (Int × Int)}, Sel n l → Asc (bords l)
  | [], _ => .nil
  | r :: l, h => by
    have h1 := h.1 r List.mem_cons_self
    have h2 := (List.pairwise_cons.mp h.2).1
    have far : ∀ x ∈ bords l, r.2 + 1 < x := fun x hx => by
      obtain ⟨q, hq, e⟩ := bords_mem hx
      have := h2 q hq
      have := h.1 q (List.mem_cons_of_mem _ hq)
      omega
    refine List.pairwise_cons.mpr ⟨fun x hx => ?_, List.pairwise_cons.mpr ⟨far, h.tail.asc⟩⟩
    rcases List.mem_cons.mp hx with e | hx
    · omega
    · have := far x hx; omega
theorem fromB_mem : ∀ {bs : List Int} {r : Int × Int}, r ∈ fromB bs → r.1 ∈ bs ∧ r.2 + 1 ∈ bs
  | a :: b :: t, r, h => by
    rcases List.mem_cons.mp h with e | h
    · rw [e]
      exact ⟨List.mem_cons_self, by rw [show b - 1 + 1 = b by omega]; exact List.mem_cons_of_mem _ List.mem_cons_self⟩
    · obtain ⟨h1, h2⟩ := fromB_mem h
      exact ⟨List.mem_cons_of_mem _ (List.mem_cons_of_mem _ h1), List.mem_cons_of_mem _ (List.mem_cons_of_mem _ h2)⟩
theorem sel_fromB {n : Int} : ∀ {bs : List Int}, Asc bs → (∀ x ∈ bs, 0 ≤ x ∧ x ≤ n) → Sel n (fromB bs)
  | [], _, _ => ⟨fun _ h => (nomatch h), .nil⟩
  | [a], _, _ => ⟨fun _ h => (nomatch h), .nil⟩
  | a :: b :: r, h, hb => by
    obtain ⟨h1, h2⟩ := List.pairwise_cons.mp h
    obtain ⟨h3, h4⟩ := List.pairwise_cons.mp h2
    have ih := sel_fromB h4 fun x hx => hb x (List.mem_cons_of_mem _ (List.mem_cons_of_mem _ hx))
    have hab := h1 b List.mem_cons_self
    have ha := hb a List.mem_cons_self
    have hb' := hb b (List.mem_cons_of_mem _ List.mem_cons_self)
    refine ⟨fun x hx => ?_, List.pairwise_cons.mpr ⟨fun x hx => ?_, ih.2⟩⟩
    · rcases List.mem_cons.mp hx with e | hx
      · rw [e]; exact ⟨ha.1, by show a ≤ b - 1; omega, by show b - 1 < n; omega⟩
      · exact ih.1 x hx
    · have := h3 x.1 (fromB_mem hx).1
      show b - 1 + 1 < x.1
      omega
/-! ### ascending lists are their members -/
theorem asc_nodup {bs : List Int} (h : Asc bs) : bs.Nodup := h.imp fun h => by omega
theorem perm_of_mem : ∀ {xs ys : List Int}, xs.Nodup → ys.Nodup → (∀ x, x ∈ xs ↔ x ∈ ys) → xs.Perm ys
  | [], ys, _, _, h => by
    cases ys with
    | nil => exact .nil
    | cons y ys => exact absurd ((h y).mpr List.mem_cons_self) List.not_mem_nil
  | x :: xs, ys, h1, h2, h => by
    have hx := (h x).mp List.mem_cons_self
    have p := List.perm_cons_erase hx
    refine .trans (.cons x (perm_of_mem (List.nodup_cons.mp h1).2 (h2.erase x) fun z => ?_)) p.symm
    rw [h2.mem_erase_iff]
    constructor
    · intro hz
      exact ⟨fun e => (List.nodup_cons.mp h1).1 (e ▸ hz), (h z).mp (List.mem_cons_of_mem _ hz)⟩
    · rintro ⟨e, hz⟩
      exact ((List.mem_cons.mp ((h z).mpr hz)).resolve_left e)
theorem asc_ext {xs ys : List Int} (h1 : Asc xs) (h2 : Asc ys) (h : ∀ x, x ∈ xs ↔ x ∈ ys) : xs = ys :=
  sort_unique (perm_of_mem (asc_nodup h1) (asc_nodup h2) h) (h1.imp fun h => by omega) (h2.imp fun h => by omega)
/-! ### the difference -/
def diffB (A B : List Int) : List Int := (sortI (A ++ B)).filter fun x => decide (((sortI (A ++ B)).count x : Int) = 1)
theorem count_asc {A : List Int} (h : A.Nodup) (x : Int) : A.count x = if x ∈ A then 1 else 0 := h.count
theorem diffB_mem {A B : List Int} (ha : A.Nodup) (hb : B.Nodup) (x : Int) : x ∈ diffB A B ↔ ¬ (x ∈ A ↔ x ∈ B) := by
  unfold diffB
  rw [List.mem_filter, (sortI_perm _).mem_iff, List.mem_append, (sortI_perm (A ++ B)).count_eq, List.count_append, count_asc ha, count_asc hb]
  by_cases h1 : x ∈ A <;> by_cases h2 : x ∈ B <;> simp [h1, h2]
theorem diffB_asc {A B : List Int} : Asc (diffB A B) := by
  have hp : (diffB A B).Pairwise (· ≤ ·) := (sortI_pw (A ++ B)).sublist List.filter_sublist
  have hn : (diffB A B).Nodup := by
    rw [List.nodup_iff_count]
    intro x
    by_cases hx : x ∈ diffB A B
    · have h1 := (List.mem_filter.mp hx).2
      have h2 : (sortI (A ++ B)).count x = 1 := by have := of_decide_eq_true h1; omega
      exact Nat.le_trans (List.Sublist.count_le x List.filter_sublist) (by omega)
    · rw [List.count_eq_zero_of_not_mem hx]; omega
  have := hp.and hn
  exact this.imp fun ⟨h1, h2⟩ => by
    have : _ ≠ _ := h2
    omega
theorem sd_len {A B D : List Int} (ha : A.Nodup) (hb : B.Nodup) (hd : D.Nodup) (h : ∀ x, x ∈ D ↔ ¬ (x ∈ A ↔ x ∈ B)) : D.length % 2 = (A.length + B.length) % 2 := by
  have p : D.Perm (A.filter (fun x => decide (x ∉ B)) ++ B.filter (fun x => decide (x ∉ A))) := by
    refine perm_of_mem hd ?_ fun x => ?_
    · rw [List.nodup_append]
      refine ⟨ha.filter _, hb.filter _, fun a h1 b h2 e => ?_⟩
      subst e
      have := (List.mem_filter.mp h1)
      have := (List.mem_filter.mp h2)
      simp_all
    · rw [h, List.mem_append, List.mem_filter, List.mem_filter]
      by_cases h1 : x ∈ A <;> by_cases h2 : x ∈ B <;> simp [h1, h2]
  have q : (A.filter (fun x => decide (x ∈ B))).Perm (B.filter (fun x => decide (x ∈ A))) := by
    refine perm_of_mem (ha.filter _) (hb.filter _) fun x => ?_
    rw [List.mem_filter, List.mem_filter]
    by_cases h1 : x ∈ A <;> by_cases h2 : x ∈ B <;> simp [h1, h2]
  have split : ∀ (X : List Int) (P : Int → Prop) [DecidablePred P], X.length = (X.filter (fun x => decide (P x))).length + (X.filter (fun x => decide (¬ P x))).length := by
    intro X P _
    induction X with
    | nil => rfl
    | cons x X ih =>
      by_cases hx : P x
      · simp [hx] at ih ⊢; omega
      · simp [hx] at ih ⊢; omega
  have l1 := split A (· ∈ B)
  have l2 := split B (· ∈ A)
  have l3 := p.length_eq
  have l4 := q.length_eq
  rw [List.length_append] at l3
  omega
def cnt (p : Int) (bs : List Int) : Nat := (bs.filter fun x => decide (x ≤ p)).length
theorem cnt_diff {A B : List Int} (ha : A.Nodup) (hb : B.Nodup) (p : Int) : cnt p (diffB A B) % 2 = (cnt p A + cnt p B) % 2 := by
  refine sd_len (ha.filter _) (hb.filter _) ((asc_nodup diffB_asc).filter _) fun x => ?_
  rw [List.mem_filter, List.mem_filter, List.mem_filter, diffB_mem ha hb]
  by_cases h1 : x ∈ A <;> by_cases h2 : x ∈ B <;> by_cases h3 : x ≤ p <;> simp [h1, h2, h3]
theorem diffB_even {A B : List Int} (ha : A.Nodup) (hb : B.Nodup) (h1 : A.length % 2 = 0) (h2 : B.length % 2 = 0) : (diffB A B).length % 2 = 0 := by
  have := sd_len ha hb (asc_nodup diffB_asc) (diffB_mem ha hb)
  omega
theorem diffB_le (A B : List Int) : (diffB A B).length ≤ A.length + B.length := by
  refine Nat.le_trans (List.length_filter_le _ _) ?_
  rw [(sortI_perm _).length_eq, List.length_append]
  exact Nat.le_refl _
theorem diffB_assoc {A B C : List Int} (ha : A.Nodup) (hb : B.Nodup) (hc : C.Nodup) : diffB (diffB A B) C = diffB A (diffB B C) := by
  have n1 : (diffB A B).Nodup := asc_nodup diffB_asc
  have n2 : (diffB B C).Nodup := asc_nodup diffB_asc
  refine asc_ext diffB_asc diffB_asc fun x => ?_
  rw [diffB_mem n1 hc, diffB_mem ha n2, diffB_mem ha hb, diffB_mem hb hc]
  by_cases h1 : x ∈ A <;> by_cases h2 : x ∈ B <;> by_cases h3 : x ∈ C <;> simp [h1, h2, h3]
/-- the difference of two selections -/
def diffS (k l : List (Int × Int)) : List (Int × Int) := fromB (diffB (bords k) (bords l))
section
variable {n : Int} {k l : List (Int × Int)}
theorem bords_even (l : List (Int × Int)) : (bords l).length % 2 = 0 := by rw [bords_len]; omega
theorem bords_diff (hk : Sel n k) (hl : Sel n l) : bords (diffS k l) = diffB (bords k) (bords l) :=
  bords_fromB _ (diffB_even (asc_nodup hk.asc) (asc_nodup hl.asc) (bords_even k) (bords_even l))
theorem sel_diff (hk : Sel n k) (hl : Sel n l) : Sel n (diffS k l) := sel_fromB diffB_asc fun x hx => by
  have := (diffB_mem (asc_nodup hk.asc) (asc_nodup hl.asc) x).mp hx
  by_cases h1 : x ∈ bords k
  · exact hk.bord x h1
  · by_cases h2 : x ∈ bords l
    · exact hl.bord x h2
    · simp [h1, h2] at this
theorem len_diff (k l : List (Int × Int)) : (diffS k l).length ≤ k.length + l.length := by
  unfold diffS
  rw [fromB_len]
  have := diffB_le (bords k) (bords l)
  rw [bords_len, bords_len] at this
  omega
end
/-! ### marked: an odd number of borders -/
def inR (l : List (Int × Int)) (p : Int) : Bool := l.any fun r => decide (r.1 ≤ p) && decide (p ≤ r.2)
theorem cnt_none {bs : List Int} {p : Int} (h : ∀ x ∈ bs, p < x) : cnt p bs = 0 := by
  unfold cnt
  rw [List.length_eq_zero_iff, List.filter_eq_nil_iff]
  intro x hx
  have := h x hx
  simp; omega
theorem cnt_cons (p x : Int) (bs : List Int) : cnt p (x :: bs) = (if x ≤ p then 1 else 0) + cnt p bs := by
  unfold cnt
  rw [List.filter_cons]
  by_cases h : x ≤ p
  · simp [h]; omega
  · simp [h]
theorem odd_marked {n p : Int} : ∀ {l : List (Int × Int)}, Sel n l → inR l p = decide (cnt p (bords l) % 2 = 1)
  | [], _ => rfl
  | r :: l, h => by
    have h1 := h.1 r List.mem_cons_self
    have far : ∀ x ∈ bords l, r.2 + 1 < x := fun x hx => by
      have := List.pairwise_cons.mp (List.pairwise_cons.mp h.asc).2
      exact this.1 x hx
    have e : inR (r :: l) p = ((decide (r.1 ≤ p) && decide (p ≤ r.2)) || inR l p) := rfl
    have e2 : cnt p (bords (r :: l)) = (if r.1 ≤ p then 1 else 0) + ((if r.2 + 1 ≤ p then 1 else 0) + cnt p (bords l)) := by
      show cnt p (r.1 :: (r.2 + 1) :: bords l) = _
      rw [cnt_cons, cnt_cons]
    rw [e, e2]
    have ih := odd_marked (p := p) h.tail
    by_cases c1 : r.2 + 1 ≤ p
    · have : ¬ p ≤ r.2 := by omega
      have c2 : r.1 ≤ p := by omega
      simp only [c1, c2, this, decide_false, Bool.and_false, Bool.false_or, if_true, ih]
      congr 1
      apply propext
      omega
    · have z : cnt p (bords l) = 0 := cnt_none fun x hx => by have := far x hx; omega
      rw [ih, z]
      have c3 : p ≤ r.2 := by omega
      by_cases c2 : r.1 ≤ p
      · simp [c1, c2, c3]
      · simp [c1, c2, c3]
/-! ### mirrored, moved -/
theorem bords_app : ∀ k l : List (Int × Int), bords (k ++ l) = bords k ++ bords l
  | [], _ => rfl
  | r :: k, l => by show r.1 :: (r.2 + 1) :: bords (k ++ l) = _; rw [bords_app k l]; rfl
def mir (n : Int) (l : List (Int × Int)) : List (Int × Int) := l.reverse.map fun x => (n - 1 - x.2, n - 1 - x.1)
theorem bords_mir (n : Int) : ∀ l : List (Int × Int), bords (mir n l) = (bords l).reverse.map fun b => n - b
  | [] => rfl
  | r :: l => by
    have e : mir n (r :: l) = mir n l ++ [(n - 1 - r.2, n - 1 - r.1)] := by unfold mir; simp
    rw [e, bords_app, bords_mir n l]
    show _ ++ [n - 1 - r.2, n - 1 - r.1 + 1] = ((r.1 :: (r.2 + 1) :: bords l).reverse.map fun b => n - b)
    simp
    omega
theorem sel_mir {n : Int} {l : List (Int × Int)} (h : Sel n l) : Sel n (mir n l) := by
  refine ⟨fun r hr => ?_, ?_⟩
  · obtain ⟨q, hq, e⟩ := List.mem_map.mp hr
    have := h.1 q (List.mem_reverse.mp hq)
    subst e
    exact ⟨by show 0 ≤ n - 1 - q.2; omega, by show n - 1 - q.2 ≤ n - 1 - q.1; omega, by show n - 1 - q.1 < n; omega⟩
  · unfold mir
    rw [List.pairwise_map, List.pairwise_reverse]
    exact h.2.imp fun {a b} hab => by show n - 1 - b.1 + 1 < n - 1 - a.2; omega
def mov (c : Int) (l : List (Int × Int)) : List (Int × Int) := l.map fun x => (x.1 + c, x.2 + c)
theorem bords_mov (c : Int) : ∀ l : List (Int × Int), bords (mov c l) = (bords l).map fun b => b + c
  | [] => rfl
  | r :: l => by
    show (r.1 + c) :: (r.2 + c + 1) :: bords (mov c l) = (r.1 + c) :: (r.2 + 1 + c) :: (bords l).map fun b => b + c
    rw [bords_mov c l, show r.2 + c + 1 = r.2 + 1 + c by omega]
theorem sel_mov {n c : Int} {l : List (Int × Int)} (h : Sel n l) (hc : 0 ≤ c) : Sel (n + c) (mov c l) := by
  refine ⟨fun r hr => ?_, ?_⟩
  · obtain ⟨q, hq, e⟩ := List.mem_map.mp hr
    have := h.1 q hq
    subst e
    exact ⟨by show 0 ≤ q.1 + c; omega, by show q.1 + c ≤ q.2 + c; omega, by show q.2 + c < n + c; omega⟩
  · unfold mov
    rw [List.pairwise_map]
    exact h.2.imp fun {a b} hab => by show a.2 + c + 1 < b.1 + c; omega
/-! ### blocks -/
/-- one border more -/
def blk1 (m : List (Int × Int)) (b : Int) : List (Int × Int) :=
  match m.getLast? with
  | some r => if r.2 + 1 = b then m.dropLast ++ [(r.1, b)] else m ++ [(b, b)]
  | none => m ++ [(b, b)]
def blks (bs : List Int) : List (Int × Int) := bs.foldl blk1 []
def cover (m : List (Int × Int)) : List Int := m.flatMap fun r => rangeL2 r.1 (r.2 + 1)
theorem rangeL2_snoc {a b : Int} (h : a ≤ b) : rangeL2 a (b + 1) = rangeL2 a b ++ [b] := by
  unfold rangeL2
  rw [show (b + 1 - a).toNat = (b - a).toNat + 1 by omega, List.range_succ, List.map_append]
  congr 1
  simp
  omega
theorem rangeL2_one (b : Int) : rangeL2 b (b + 1) = [b] := by
  rw [rangeL2_snoc (Int.le_refl _)]
  unfold rangeL2
  rw [show (b - b).toNat = 0 by omega]
  rfl
theorem blk1_snoc {m : List (Int × Int)} {r : Int × Int} {b : Int} : blk1 (m ++ [r]) b = if r.2 + 1 = b then m ++ [(r.1, b)] else m ++ [r] ++ [(b, b)] := by
  unfold blk1
  simp
theorem snoc_cases {α : Type} (l : List α) : l = [] ∨ ∃ l0 r, l = l0 ++ [r] := by
  cases h : l with
  | nil => exact .inl rfl
  | cons a t => exact .inr ⟨_, _, (List.dropLast_concat_getLast (List.cons_ne_nil a t)).symm⟩
theorem cover_blk1 {m : List (Int × Int)} {b : Int} (h : ∀ r ∈ m, r.1 ≤ r.2) : cover (blk1 m b) = cover m ++ [b] ∧ ∀ r ∈ blk1 m b, r.1 ≤ r.2 := by
  rcases snoc_cases m with e | ⟨m0, r, e⟩
  · subst e
    refine ⟨?_, ?_⟩
    · show rangeL2 b (b + 1) ++ [] = _
      rw [rangeL2_one]; rfl
    · intro r hr
      have : r = (b, b) := by simpa [blk1] using hr
      rw [this]; exact Int.le_refl _
  · subst e
    rw [blk1_snoc]
    have hr := h r (by simp)
    by_cases c : r.2 + 1 = b
    · rw [if_pos c]
      refine ⟨?_, ?_⟩
      · unfold cover
        rw [List.flatMap_append, List.flatMap_append, List.append_assoc]
        congr 1
        simp only [List.flatMap_cons, List.flatMap_nil, List.append_nil]
        rw [c, rangeL2_snoc (by omega)]
      · intro x hx
        rcases List.mem_append.mp hx with hx | hx
        · exact h x (List.mem_append_left _ hx)
        · rw [List.mem_singleton.mp hx]; show r.1 ≤ b; omega
    · rw [if_neg c]
      refine ⟨?_, ?_⟩
      · unfold cover
        rw [List.flatMap_append (xs := m0 ++ [r])]
        congr 1
        simp only [List.flatMap_cons, List.flatMap_nil, List.append_nil]
        exact rangeL2_one b
      · intro x hx
        rcases List.mem_append.mp hx with hx | hx
        · exact h x hx
        · rw [List.mem_singleton.mp hx]; exact Int.le_refl _
theorem cover_foldl : ∀ (bs : List Int) (m : List (Int × Int)), (∀ r ∈ m, r.1 ≤ r.2) → cover (bs.foldl blk1 m) = cover m ++ bs ∧ (∀ r ∈ bs.foldl blk1 m, r.1 ≤ r.2)
  | [], m, h => ⟨by simp, h⟩
  | b :: bs, m, h => by
    obtain ⟨h1, h2⟩ := cover_blk1 (b := b) h
    obtain ⟨h3, h4⟩ := cover_foldl bs (blk1 m b) h2
    exact ⟨by rw [List.foldl_cons, h3, h1]; simp, h4⟩
theorem cover_blks (bs : List Int) : cover (blks bs) = bs := by
  have := (cover_foldl bs [] (fun _ h => (nomatch h))).1
  simpa [blks, cover] using this
theorem blks_le (bs : List Int) : ∀ r ∈ blks bs, r.1 ≤ r.2 := (cover_foldl bs [] (fun _ h => (nomatch h))).2
theorem blk1_mov (c : Int) (m : List (Int × Int)) (b : Int) : blk1 (mov c m) (b + c) = mov c (blk1 m b) := by
  rcases snoc_cases m with e | ⟨m0, r, e⟩
  · subst e; rfl
  · subst e
    have e1 : mov c (m0 ++ [r]) = mov c m0 ++ [(r.1 + c, r.2 + c)] := by unfold mov; simp
    rw [e1, blk1_snoc, blk1_snoc]
    by_cases h : r.2 + 1 = b
    · have : r.2 + c + 1 = b + c := by omega
      rw [if_pos h, if_pos this]
      unfold mov; simp
    · have : ¬ r.2 + c + 1 = b + c := by omega
      rw [if_neg h, if_neg this]
      unfold mov; simp
theorem foldl_mov (c : Int) : ∀ (bs : List Int) (m : List (Int × Int)), (bs.map fun b => b + c).foldl blk1 (mov c m) = mov c (bs.foldl blk1 m)
  | [], m => rfl
  | b :: bs, m => by
    show (bs.map fun b => b + c).foldl blk1 (blk1 (mov c m) (b + c)) = _
    rw [blk1_mov, foldl_mov c bs]
    rfl
theorem blks_mov (c : Int) (bs : List Int) : blks (bs.map fun b => b + c) = mov c (blks bs) := foldl_mov c bs []
theorem blk1_len (m : List (Int × Int)) (b : Int) : (blk1 m b).length ≤ m.length + 1 := by
  rcases snoc_cases m with e | ⟨m0, r, e⟩
  · subst e; exact Nat.le_refl _
  · subst e
    rw [blk1_snoc]
    split <;> simp
theorem foldl_len : ∀ (bs : List Int) (m : List (Int × Int)), (bs.foldl blk1 m).length ≤ m.length + bs.length
  | [], m => Nat.le_refl _
  | b :: bs, m => by
    have h1 := foldl_len bs (blk1 m b)
    have h2 := blk1_len m b
    simp only [List.foldl_cons, List.length_cons]
    omega
theorem blks_len (bs : List Int) : (blks bs).length ≤ bs.length := by
  have := foldl_len bs []
  simpa [blks] using this
theorem blk1_mem {m : List (Int × Int)} {b : Int} {P : Int → Prop} (hm : ∀ r ∈ m, P r.1 ∧ P r.2) (hb : P b) : ∀ r ∈ blk1 m b, P r.1 ∧ P r.2 := by
  rcases snoc_cases m with e | ⟨m0, r, e⟩
  · subst e
    intro x hx
    have : x = (b, b) := by simpa [blk1] using hx
    rw [this]; exact ⟨hb, hb⟩
  · subst e
    rw [blk1_snoc]
    intro x hx
    split at hx
    · rcases List.mem_append.mp hx with hx | hx
      · exact hm x (List.mem_append_left _ hx)
      · rw [List.mem_singleton.mp hx]; exact ⟨(hm r (by simp)).1, hb⟩
    · rcases List.mem_append.mp hx with hx | hx
      · exact hm x hx
      · rw [List.mem_singleton.mp hx]; exact ⟨hb, hb⟩
theorem foldl_mem {P : Int → Prop} : ∀ (bs : List Int) (m : List (Int × Int)), (∀ r ∈ m, P r.1 ∧ P r.2) → (∀ b ∈ bs, P b) → ∀ r ∈ bs.foldl blk1 m, P r.1 ∧ P r.2
  | [], _, hm, _ => hm
  | b :: bs, m, hm, hb => foldl_mem bs (blk1 m b) (blk1_mem hm (hb b List.mem_cons_self)) fun x hx => hb x (List.mem_cons_of_mem _ hx)
theorem blks_mem {bs : List Int} : ∀ r ∈ blks bs, r.1 ∈ bs ∧ r.2 ∈ bs := foldl_mem (P := (· ∈ bs)) bs [] (fun _ h => (nomatch h)) fun _ h => h
end Sx

/-! Runs gathered from the left; selections with the same marks are the same. -/
namespace Sx
open Dx
theorem cnt_step {x : Int} : ∀ {bs : List Int}, bs.Nodup → cnt x bs = cnt (x - 1) bs + if x ∈ bs then 1 else 0
  | [], _ => rfl
  | b :: bs, h => by
    obtain ⟨h1, h2⟩ := List.nodup_cons.mp h
    rw [cnt_cons, cnt_cons, cnt_step h2]
    by_cases e : b = x
    · subst e
      have : ¬ b ≤ b - 1 := by omega
      simp [h1, this]
      omega
    · by_cases m : x ∈ bs
      · have : x ∈ b :: bs := List.mem_cons_of_mem _ m
        simp only [m, this, if_true]
        by_cases l : b ≤ x
        · have : b ≤ x - 1 := by omega
          simp [l, this]; omega
        · have : ¬ b ≤ x - 1 := by omega
          simp [l, this]
      · have : x ∉ b :: bs := fun z => by
          rcases List.mem_cons.mp z with z | z
          · exact e z.symm
          · exact m z
        simp only [m, this, if_false]
        by_cases l : b ≤ x
        · have : b ≤ x - 1 := by omega
          simp [l, this]
        · have : ¬ b ≤ x - 1 := by omega
          simp [l, this]
theorem cnt_same {bs : List Int} {a p : Int} (h : ∀ x ∈ bs, ¬ (a < x ∧ x ≤ p)) (hp : a ≤ p) : cnt p bs = cnt a bs := by
  unfold cnt
  congr 1
  apply List.filter_congr
  intro x hx
  have := h x hx
  apply decide_eq_decide.mpr
  omega
section
variable {n c : Int} {k l : List (Int × Int)}
theorem bord_iff (h : Sel n l) (x : Int) : x ∈ bords l ↔ inR l (x - 1) ≠ inR l x := by
  rw [odd_marked h, odd_marked h]
  have := cnt_step (x := x) (asc_nodup h.asc)
  by_cases m : x ∈ bords l
  · simp only [m, if_true] at this
    simp only [m, true_iff]
    intro e
    have e2 : (cnt (x - 1) (bords l) % 2 = 1) = (cnt x (bords l) % 2 = 1) := by
      apply propext
      exact decide_eq_decide.mp e
    rw [this] at e2
    have e3 := (Eq.to_iff e2)
    omega
  · simp only [m, if_false] at this
    simp only [m, false_iff, Decidable.not_not]
    rw [this]; rfl
theorem inR_out (h : Sel n l) {p : Int} (hp : p < 0 ∨ n ≤ p) : inR l p = false := by
  unfold inR
  rw [List.any_eq_false]
  intro r hr
  have := h.1 r hr
  simp only [Bool.and_eq_true, decide_eq_true_eq]
  omega
theorem sel_uniq (hk : Sel n k) (hl : Sel n l) (h : ∀ p, 0 ≤ p → p < n → inR k p = inR l p) : k = l := by
  have all : ∀ p, inR k p = inR l p := fun p => by
    by_cases z : p < 0 ∨ n ≤ p
    · rw [inR_out hk z, inR_out hl z]
    · exact h p (by omega) (by omega)
  have e : bords k = bords l := asc_ext hk.asc hl.asc fun x => by
    rw [bord_iff hk, bord_iff hl, all, all]
  rw [← fromB_bords k, e, fromB_bords]
theorem inR_diff (hk : Sel n k) (hl : Sel n l) (p : Int) : inR (diffS k l) p = (inR k p != inR l p) := by
  rw [odd_marked (sel_diff hk hl), odd_marked hk, odd_marked hl, bords_diff hk hl, cnt_diff (asc_nodup hk.asc) (asc_nodup hl.asc)]
  by_cases a : cnt p (bords k) % 2 = 1 <;> by_cases b : cnt p (bords l) % 2 = 1
  · have : ¬ (cnt p (bords k) + cnt p (bords l)) % 2 = 1 := by omega
    simp [a, b, this]
  · have : (cnt p (bords k) + cnt p (bords l)) % 2 = 1 := by omega
    simp [a, b, this]
  · have : (cnt p (bords k) + cnt p (bords l)) % 2 = 1 := by omega
    simp [a, b, this]
  · have : ¬ (cnt p (bords k) + cnt p (bords l)) % 2 = 1 := by omega
    simp [a, b, this]
theorem inR_const (h : Sel n l) {a p : Int} (hb : ∀ x ∈ bords l, ¬ (a < x ∧ x ≤ p)) (hp : a ≤ p) : inR l p = inR l a := by
  rw [odd_marked h, odd_marked h, cnt_same hb hp]
theorem inR_true {p : Int} : inR l p = true ↔ ∃ r ∈ l, r.1 ≤ p ∧ p ≤ r.2 := by
  unfold inR
  rw [List.any_eq_true]
  simp only [Bool.and_eq_true, decide_eq_true_eq]
theorem inR_app (p : Int) : inR (k ++ l) p = (inR k p || inR l p) := by unfold inR; rw [List.any_append]
theorem inR_one (r : Int × Int) (p : Int) : inR [r] p = (decide (r.1 ≤ p) && decide (p ≤ r.2)) := by simp [inR]
end
/-- what is gathered of the marks M ahead of c -/
def Upto (M : Int → Bool) (c : Int) (f : List (Int × Int)) : Prop := Sel c f ∧ ∀ p, 0 ≤ p → p < c → inR f p = M p
section
variable {M : Int → Bool} {a b : Int} {f : List (Int × Int)} {r : Int × Int}
theorem Sel.wide {n m : Int} {l : List (Int × Int)} (h : Sel n l) (hm : n ≤ m) : Sel m l := ⟨fun r hr => by have := h.1 r hr; omega, h.2⟩
theorem upto_zero : Upto M 0 [] := ⟨⟨fun _ h => (nomatch h), .nil⟩, fun p h0 h1 => by omega⟩
theorem upto_skip (h : Upto M a f) (hab : a ≤ b) (hM : ∀ p, a ≤ p → p < b → M p = false) : Upto M b f :=
  ⟨h.1.wide hab, fun p h0 h1 => by
    by_cases z : p < a
    · exact h.2 p h0 z
    · rw [hM p (by omega) h1]
      exact inR_out h.1 (.inr (by omega))⟩
theorem sel_app {n x y : Int} (h : Sel n f) (h0 : 0 ≤ x) (h1 : x ≤ y) (h2 : y < n) (hf : ∀ r ∈ f, r.2 + 1 < x) : Sel n (f ++ [(x, y)]) := by
  refine ⟨fun r hr => ?_, List.pairwise_append.mpr ⟨h.2, List.pairwise_singleton .., fun x hx y hy => ?_⟩⟩
  · rcases List.mem_append.mp hr with z | z
    · exact h.1 r z
    · rw [List.mem_singleton.mp z]; exact ⟨h0, h1, h2⟩
  · rw [List.mem_singleton.mp hy]; exact hf x hx
theorem upto_app (h : Upto M a f) (h0 : 0 ≤ a) (hab : a < b) (hM : ∀ p, a ≤ p → p < b → M p = true) (hf : ∀ r ∈ f, r.2 + 1 ≠ a) : Upto M b (f ++ [(a, b - 1)]) := by
  refine ⟨sel_app (h.1.wide (by omega)) h0 (by omega) (by omega) fun r hr => ?_, fun p p0 p1 => ?_⟩
  · have := h.1.1 r hr
    have := hf r hr
    omega
  · rw [inR_app, inR_one]
    by_cases z : p < a
    · have e : ¬ a ≤ p := by omega
      rw [h.2 p p0 z, decide_eq_false e]
      simp
    · have e : a ≤ p := by omega
      have e2 : p ≤ b - 1 := by omega
      rw [hM p e p1, decide_eq_true e, decide_eq_true (show p ≤ (a, b - 1).2 from e2)]
      simp
theorem upto_ext (h : Upto M a (f ++ [r])) (hr : r.2 + 1 = a) (hab : a < b) (hM : ∀ p, a ≤ p → p < b → M p = true) : Upto M b (f ++ [(r.1, b - 1)]) := by
  have hv := h.1.1 r (by simp)
  obtain ⟨q1, q2, q3⟩ := List.pairwise_append.mp h.1.2
  have sf : Sel b f := ⟨fun x hx => by have := h.1.1 x (List.mem_append_left _ hx); omega, q1⟩
  refine ⟨sel_app sf hv.1 (by omega) (by omega) fun x hx => q3 x hx r (by simp), fun p p0 p1 => ?_⟩
  rw [inR_app, inR_one]
  by_cases z : p < a
  · have e := h.2 p p0 z
    rw [inR_app, inR_one] at e
    rw [← e]
    congr 2
    apply decide_eq_decide.mpr
    show p ≤ b - 1 ↔ p ≤ r.2
    omega
  · have e : r.1 ≤ p := by omega
    have e2 : p ≤ b - 1 := by omega
    rw [hM p (by omega) p1, decide_eq_true (show (r.1, b - 1).1 ≤ p from e), decide_eq_true (show p ≤ (r.1, b - 1).2 from e2)]
    simp
theorem last_gap (h : Sel a (f ++ [r])) (hr : r.2 + 1 ≠ a) : ∀ x ∈ f ++ [r], x.2 + 1 ≠ a := fun x hx => by
  obtain ⟨q1, q2, q3⟩ := List.pairwise_append.mp h.2
  rcases List.mem_append.mp hx with z | z
  · have := q3 x z r (by simp)
    have := h.1 r (by simp)
    omega
  · rw [List.mem_singleton.mp z]; exact hr
/-- marked ahead: the last run ends there -/
theorem last_of (h : Upto M a f) (h1 : 0 < a) (hm : M (a - 1) = true) : ∃ f0 r, f = f0 ++ [r] ∧ r.2 + 1 = a := by
  rw [← h.2 (a - 1) (by omega) (by omega), inR_true] at hm
  obtain ⟨r, hr, q1, q2⟩ := hm
  have hv := h.1.1 r hr
  rcases snoc_cases f with e | ⟨f0, l, e⟩
  · rw [e] at hr; cases hr
  · refine ⟨f0, l, e, ?_⟩
    subst e
    by_cases z : l.2 + 1 = a
    · exact z
    · exact absurd (show r.2 + 1 = a by omega) (last_gap h.1 z r hr)
theorem no_last (h : Upto M a f) (hm : a = 0 ∨ M (a - 1) = false) : ∀ r ∈ f, r.2 + 1 ≠ a := fun r hr e => by
  have hv := h.1.1 r hr
  rcases hm with z | z
  · omega
  · rw [← h.2 (a - 1) (by omega) (by omega)] at z
    have := inR_true.mpr ⟨r, hr, show r.1 ≤ a - 1 by omega, show a - 1 ≤ r.2 by omega⟩
    rw [this] at z
    cases z
end
end Sx

/-! What clicks do to selections, told by marks. -/
namespace Sx
open Dx
/-! ### sorted lists without repetition -/
theorem sortI_asc {xs : List Int} (h : xs.Nodup) : Asc (sortI xs) := by
  have h1 := sortI_pw xs
  have h2 : (sortI xs).Nodup := (sortI_perm xs).nodup_iff.mpr h
  exact List.Pairwise.imp₂ (fun a b h1 h2 => by omega) h1 h2
theorem sortI_mem {xs : List Int} {x : Int} : x ∈ sortI xs ↔ x ∈ xs := (sortI_perm xs).mem_iff
/-! ### a selection for all marks -/
theorem sel_of (M : Int → Bool) : ∀ n : Nat, ∃ f, Upto M n f
  | 0 => ⟨[], upto_zero⟩
  | n + 1 => by
    obtain ⟨f, h⟩ := sel_of M n
    have one : ∀ p : Int, (n : Int) ≤ p → p < ((n + 1 : Nat) : Int) → p = n := fun p a b => by omega
    by_cases m : M n = true
    · by_cases l : (n : Int) = 0 ∨ M ((n : Int) - 1) = false
      · exact ⟨_, upto_app (b := ((n + 1 : Nat) : Int)) h (by omega) (by omega) (fun p a b => by rw [one p a b]; exact m) (no_last h l)⟩
      · have l1 : (n : Int) ≠ 0 := fun z => l (.inl z)
        have l2 : M ((n : Int) - 1) = true := by
          cases e : M ((n : Int) - 1) with
          | true => rfl
          | false => exact absurd (.inr e) l
        obtain ⟨f0, r, e, er⟩ := last_of h (by omega) l2
        subst e
        exact ⟨_, upto_ext (b := ((n + 1 : Nat) : Int)) h er (by omega) fun p a b => by rw [one p a b]; exact m⟩
    · exact ⟨f, upto_skip h (by omega) fun p a b => by rw [one p a b]; simpa using m⟩
theorem sel_marks {n : Int} (hn : 0 ≤ n) (M : Int → Bool) (hM : ∀ p, p < 0 ∨ n ≤ p → M p = false) : ∃ T, Sel n T ∧ ∀ p, inR T p = M p := by
  obtain ⟨T, h1, h2⟩ := sel_of M n.toNat
  rw [show ((n.toNat : Nat) : Int) = n by omega] at h1 h2
  refine ⟨T, h1, fun p => ?_⟩
  by_cases z : p < 0 ∨ n ≤ p
  · rw [inR_out h1 z, hM p z]
  · exact h2 p (by omega) (by omega)
/-! ### a click -/
def clickS (l : List (Int × Int)) (i : Int) : List (Int × Int) := fromB (sortI ((bords l).filter (fun x => !decide (x ∈ [i, i + 1])) ++ [i, i + 1].filter fun x => !decide (x ∈ bords l)))
section
variable {n i a b : Int} {l : List (Int × Int)} {m : Bool}
theorem nodup_app {xs ys : List Int} (h1 : xs.Nodup) (h2 : ys.Nodup) (h : ∀ x ∈ xs, x ∉ ys) : (xs ++ ys).Nodup :=
  List.nodup_append.mpr ⟨h1, h2, fun x hx y hy e => h x hx (e ▸ hy)⟩
theorem click_ok (h : Sel n l) (h0 : 0 ≤ i) (h1 : i < n) : Sel n (clickS l i) ∧ ∀ p, inR (clickS l i) p = (inR l p != decide (p = i)) := by
  have hi : Sel n [(i, i)] := ⟨fun r hr => by rw [List.mem_singleton.mp hr]; exact ⟨h0, Int.le_refl _, h1⟩, List.pairwise_singleton _ _⟩
  have e : clickS l i = diffS l [(i, i)] := by
    unfold clickS diffS
    congr 1
    have nd : ([i, i + 1] : List Int).Nodup := by
      simp
      omega
    refine asc_ext (sortI_asc (nodup_app ((asc_nodup h.asc).filter _) (nd.filter _) fun x hx hy => ?_)) diffB_asc fun x => ?_
    · rw [List.mem_filter] at hx hy
      have := hx.2
      have hy1 := hy.1
      simp only [Bool.not_eq_true', decide_eq_false_iff_not] at this
      exact this hy1
    · rw [sortI_mem, diffB_mem (asc_nodup h.asc) (asc_nodup hi.asc), List.mem_append, List.mem_filter, List.mem_filter]
      have eb : bords [(i, i)] = [i, i + 1] := rfl
      rw [eb]
      by_cases q1 : x ∈ bords l <;> by_cases q2 : x ∈ [i, i + 1] <;> simp [q1, q2]
  rw [e]
  refine ⟨sel_diff h hi, fun p => ?_⟩
  rw [inR_diff h hi, inR_one]
  congr 1
  rw [← Bool.decide_and]
  apply decide_eq_decide.mpr
  show i ≤ p ∧ p ≤ i ↔ p = i
  omega
/-! ### a range click -/
def rangeB (l : List (Int × Int)) (a b : Int) (m : Bool) : List Int :=
  let q := (bords l).filter fun x => !(decide (a ≤ x) && decide (x ≤ b + 1))
  let q := if (inR l (a - 1) != m) = true then q ++ [a] else q
  if (inR l (b + 1) != m) = true then q ++ [b + 1] else q
def rangeS (l : List (Int × Int)) (a b : Int) (m : Bool) : List (Int × Int) := fromB (sortI (rangeB l a b m))
theorem rangeB_mem {x : Int} : x ∈ rangeB l a b m ↔ (x ∈ bords l ∧ ¬ (a ≤ x ∧ x ≤ b + 1)) ∨ (x = a ∧ inR l (a - 1) ≠ m) ∨ (x = b + 1 ∧ inR l (b + 1) ≠ m) := by
  unfold rangeB
  have hne : ∀ c d : Bool, (c != d) = true ↔ c ≠ d := fun c d => by cases c <;> cases d <;> simp
  have hf : x ∈ (bords l).filter (fun x => !(decide (a ≤ x) && decide (x ≤ b + 1))) ↔ (x ∈ bords l ∧ ¬ (a ≤ x ∧ x ≤ b + 1)) := by
    rw [List.mem_filter, Bool.not_eq_true', ← Bool.decide_and, decide_eq_false_iff_not]
  by_cases c1 : inR l (a - 1) ≠ m <;> by_cases c2 : inR l (b + 1) ≠ m
  · rw [if_pos ((hne _ _).mpr c2), if_pos ((hne _ _).mpr c1), List.mem_append, List.mem_append, hf, List.mem_singleton, List.mem_singleton]
    simp only [c1, c2, ne_eq, not_false_eq_true, and_true, or_assoc]
  · rw [if_neg (fun z => c2 ((hne _ _).mp z)), if_pos ((hne _ _).mpr c1), List.mem_append, hf, List.mem_singleton]
    rw [eq_true c1, eq_false c2]
    simp only [and_true, and_false, or_false]
  · rw [if_pos ((hne _ _).mpr c2), if_neg (fun z => c1 ((hne _ _).mp z)), List.mem_append, hf, List.mem_singleton]
    rw [eq_false c1, eq_true c2]
    simp only [and_true, and_false, false_or]
  · rw [if_neg (fun z => c2 ((hne _ _).mp z)), if_neg (fun z => c1 ((hne _ _).mp z)), hf]
    simp only [c1, c2, and_false, or_false]
theorem rangeB_nodup (h : Sel n l) (hab : a ≤ b) : (rangeB l a b m).Nodup := by
  unfold rangeB
  have nf := (asc_nodup h.asc).filter (fun x => !(decide (a ≤ x) && decide (x ≤ b + 1)))
  have out : ∀ x ∈ (bords l).filter (fun x => !(decide (a ≤ x) && decide (x ≤ b + 1))), ¬ (a ≤ x ∧ x ≤ b + 1) := fun x hx => by
    rw [List.mem_filter, Bool.not_eq_true', ← Bool.decide_and, decide_eq_false_iff_not] at hx
    exact hx.2
  have n1 : (if (inR l (a - 1) != m) = true then (bords l).filter (fun x => !(decide (a ≤ x) && decide (x ≤ b + 1))) ++ [a] else (bords l).filter (fun x => !(decide (a ≤ x) && decide (x ≤ b + 1)))).Nodup := by
    split
    · exact nodup_app nf (by simp) fun x hx hy => by have := out x hx; rw [List.mem_singleton.mp hy] at this; omega
    · exact nf
  show (if (inR l (b + 1) != m) = true then _ ++ [b + 1] else _ : List Int).Nodup
  split
  · refine nodup_app n1 (by simp) fun x hx hy => ?_
    rw [List.mem_singleton.mp hy] at hx
    split at hx
    · rcases List.mem_append.mp hx with z | z
      · have := out _ z; omega
      · have := List.mem_singleton.mp z; omega
    · have := out _ hx; omega
  · exact n1
theorem range_ok (h : Sel n l) (h0 : 0 ≤ a) (hab : a ≤ b) (h1 : b < n) : Sel n (rangeS l a b m) ∧ ∀ p, inR (rangeS l a b m) p = if a ≤ p ∧ p ≤ b then m else inR l p := by
  obtain ⟨T, t1, t2⟩ := sel_marks (n := n) (by omega) (fun p => if a ≤ p ∧ p ≤ b then m else inR l p) fun p hp => by
    have : ¬ (a ≤ p ∧ p ≤ b) := by omega
    show (if a ≤ p ∧ p ≤ b then m else inR l p) = false
    rw [if_neg this, inR_out h hp]
  have e : sortI (rangeB l a b m) = bords T := asc_ext (sortI_asc (rangeB_nodup h hab)) t1.asc fun x => by
    rw [sortI_mem, rangeB_mem, bord_iff t1, t2, t2, bord_iff h]
    by_cases c1 : x < a
    · have q1 : ¬ (a ≤ x - 1 ∧ x - 1 ≤ b) := by omega
      have q2 : ¬ (a ≤ x ∧ x ≤ b) := by omega
      have q3 : ¬ (a ≤ x ∧ x ≤ b + 1) := by omega
      have q4 : x ≠ a := by omega
      have q5 : x ≠ b + 1 := by omega
      simp only [q1, q2, q3, q4, q5, if_false, not_false_eq_true, and_true, false_and, or_false]
    · by_cases c2 : x = a
      · subst c2
        have q1 : ¬ (x ≤ x - 1 ∧ x - 1 ≤ b) := by omega
        have q2 : (x ≤ x ∧ x ≤ b) := by omega
        have q3 : (x ≤ x ∧ x ≤ b + 1) := by omega
        have q5 : x ≠ b + 1 := by omega
        simp only [q1, q2, q3, q5, if_false, if_true, not_true_eq_false, and_false, false_and, or_false, false_or, true_and]
      · by_cases c3 : x ≤ b
        · have q1 : (a ≤ x - 1 ∧ x - 1 ≤ b) := by omega
          have q2 : (a ≤ x ∧ x ≤ b) := by omega
          have q3 : (a ≤ x ∧ x ≤ b + 1) := by omega
          have q5 : x ≠ b + 1 := by omega
          simp only [q1, q2, q3, q5, c2, if_true, not_true_eq_false, and_false, false_and, or_false, ne_eq]
          simp
        · by_cases c4 : x = b + 1
          · subst c4
            have q1 : (a ≤ b + 1 - 1 ∧ b + 1 - 1 ≤ b) := by omega
            have q2 : ¬ (a ≤ b + 1 ∧ b + 1 ≤ b) := by omega
            have q3 : (a ≤ b + 1 ∧ b + 1 ≤ b + 1) := by omega
            have q5 : b + 1 ≠ a := by omega
            rw [if_pos q1, if_neg q2]
            simp only [q3, q5, not_true_eq_false, and_false, false_and, or_false, false_or, true_and]
            exact ⟨fun z => z.symm, fun z => z.symm⟩
          · have q1 : ¬ (a ≤ x - 1 ∧ x - 1 ≤ b) := by omega
            have q2 : ¬ (a ≤ x ∧ x ≤ b) := by omega
            have q3 : ¬ (a ≤ x ∧ x ≤ b + 1) := by omega
            simp only [q1, q2, q3, c2, c4, if_false, not_false_eq_true, and_true, false_and, or_false]
  have e2 : rangeS l a b m = T := by unfold rangeS; rw [e, fromB_bords]
  rw [e2]
  exact ⟨t1, t2⟩
end
end Sx

/-! States and clicks: mirrored, moved, with runs kept outside. -/
namespace Sx
open Dx PySem
abbrev StT : Type := Int × List (Int × Int) × Option Int
abbrev CkT : Type := Str × Int
def nextS (s : StT) (c : CkT) : StT :=
  if c.1 = ("click" : Str) then (s.1, clickS s.2.1 c.2, some c.2)
  else (s.1, rangeS s.2.1 (min (s.2.2.getD 0) c.2) (max (s.2.2.getD 0) c.2) (inR s.2.1 (s.2.2.getD 0)), s.2.2)
def runS : StT → List CkT → List StT
  | s, [] => [s]
  | s, c :: cs => s :: runS (nextS s c) cs
/-- a state -/
structure Vs (n : Int) (s : StT) : Prop where
  num : s.1 = n
  pos : 1 ≤ n
  sel : Sel n s.2.1
  anc : ∀ a, s.2.2 = some a → 0 ≤ a ∧ a < n
/-- a click that can be done -/
def Can (n : Int) (s : StT) (c : CkT) : Prop := 0 ≤ c.2 ∧ c.2 < n ∧ (c.1 = ("click" : Str) ∨ (c.1 = ("range" : Str) ∧ s.2.2.isSome = true))
def Cans (n : Int) : StT → List CkT → Prop
  | _, [] => True
  | s, c :: cs => Can n s c ∧ Cans n (nextS s c) cs
section
variable {n : Int} {s : StT} {c : CkT}
theorem next_valid (h : Vs n s) (hc : Can n s c) : Vs n (nextS s c) := by
  obtain ⟨c0, c1, ck⟩ := hc
  unfold nextS
  split
  · exact ⟨h.num, h.pos, (click_ok h.sel c0 c1).1, fun a e => by cases e; exact ⟨c0, c1⟩⟩
  · rename_i nk
    obtain ⟨a, ea⟩ : ∃ a, s.2.2 = some a := by
      rcases ck with e | e
      · exact absurd e nk
      · exact Option.isSome_iff_exists.mp e.2
    have ha := h.anc a ea
    rw [ea]
    exact ⟨h.num, h.pos, (range_ok h.sel (by show 0 ≤ min a c.2; omega) (by show min a c.2 ≤ max a c.2; omega) (by show max a c.2 < n; omega)).1, fun a' e => by cases e; exact ha⟩
theorem next_some (hc : Can n s c) : (nextS s c).2.2.isSome = true := by
  unfold nextS
  split
  · rfl
  · rename_i nk
    rcases hc.2.2 with e | e
    · exact absurd e nk
    · exact e.2
theorem run_length : ∀ (s : StT) (cs : List CkT), (runS s cs).length = cs.length + 1
  | _, [] => rfl
  | s, c :: cs => by show (runS (nextS s c) cs).length + 1 = _; rw [run_length]; rfl
theorem run_valid : ∀ {cs : List CkT} {s : StT}, Vs n s → Cans n s cs → ∀ t ∈ runS s cs, Vs n t
  | [], s, h, _, t, ht => by rw [List.mem_singleton.mp ht]; exact h
  | c :: cs, s, h, hc, t, ht => by
    rcases List.mem_cons.mp ht with e | ht
    · rw [e]; exact h
    · exact run_valid (next_valid h hc.1) hc.2 t ht
theorem cans_of : ∀ {cs : List CkT} {s : StT}, (∀ c ∈ cs, 0 ≤ c.2 ∧ c.2 < n ∧ (c.1 = ("click" : Str) ∨ c.1 = ("range" : Str))) → s.2.2.isSome = true → Cans n s cs
  | [], _, _, _ => trivial
  | c :: cs, s, h, hs => by
    obtain ⟨a, b, k⟩ := h c List.mem_cons_self
    have hc : Can n s c := ⟨a, b, k.imp id fun e => ⟨e, hs⟩⟩
    exact ⟨hc, cans_of (fun x hx => h x (List.mem_cons_of_mem _ hx)) (next_some hc)⟩
/-- what goes with each step goes with all -/
theorem run_comm {φ : StT → StT} {ψ : CkT → CkT} (hφ : ∀ s c, Vs n s → Can n s c → nextS (φ s) (ψ c) = φ (nextS s c)) : ∀ {cs : List CkT} {s : StT}, Vs n s → Cans n s cs → runS (φ s) (cs.map ψ) = (runS s cs).map φ
  | [], _, _, _ => rfl
  | c :: cs, s, h, hc => by
    show φ s :: runS (nextS (φ s) (ψ c)) (cs.map ψ) = φ s :: (runS (nextS s c) cs).map φ
    rw [hφ s c h hc.1, run_comm hφ (next_valid h hc.1) hc.2]
end
/-! ### marks of what is moved, mirrored -/
theorem inR_mov (c p : Int) (l : List (Int × Int)) : inR (mov c l) p = inR l (p - c) := by
  unfold inR mov
  rw [List.any_map]
  congr 1
  funext r
  show (decide (r.1 + c ≤ p) && decide (p ≤ r.2 + c)) = _
  congr 1
  · apply decide_eq_decide.mpr; omega
  · apply decide_eq_decide.mpr; omega
theorem inR_mir (n p : Int) (l : List (Int × Int)) : inR (mir n l) p = inR l (n - 1 - p) := by
  unfold inR mir
  rw [List.any_map, List.any_reverse]
  congr 1
  funext r
  show (decide (n - 1 - r.2 ≤ p) && decide (p ≤ n - 1 - r.1)) = _
  rw [Bool.and_comm]
  congr 1
  · apply decide_eq_decide.mpr; omega
  · apply decide_eq_decide.mpr; omega
/-- the state mirrored -/
def mirS (s : StT) : StT := (s.1, mir s.1 s.2.1, s.2.2.map fun a => s.1 - 1 - a)
section
variable {n : Int} {s : StT} {c : CkT}
theorem mir_valid (h : Vs n s) : Vs n (mirS s) := ⟨h.num, h.pos, by show Sel n (mir s.1 s.2.1); rw [h.num]; exact sel_mir h.sel, fun a e => by
  obtain ⟨b, eb, e2⟩ := Option.map_eq_some_iff.mp e
  have := h.anc b eb
  rw [h.num] at e2
  omega⟩
theorem mir_next (h : Vs n s) (hc : Can n s c) : nextS (mirS s) (c.1, n - 1 - c.2) = mirS (nextS s c) := by
  obtain ⟨c0, c1, ck⟩ := hc
  have sm : Sel n (mir n s.2.1) := sel_mir h.sel
  by_cases k : c.1 = ("click" : Str)
  · have e1 : nextS s c = (s.1, clickS s.2.1 c.2, some c.2) := if_pos k
    have e2 : nextS (mirS s) (c.1, n - 1 - c.2) = (s.1, clickS (mir s.1 s.2.1) (n - 1 - c.2), some (n - 1 - c.2)) := if_pos k
    rw [e1, e2]
    unfold mirS
    show (s.1, clickS (mir s.1 s.2.1) (n - 1 - c.2), some (n - 1 - c.2)) = (s.1, mir s.1 (clickS s.2.1 c.2), some (s.1 - 1 - c.2))
    rw [h.num]
    obtain ⟨a1, a2⟩ := click_ok h.sel c0 c1
    obtain ⟨b1, b2⟩ := click_ok (i := n - 1 - c.2) sm (by omega) (by omega)
    have : clickS (mir n s.2.1) (n - 1 - c.2) = mir n (clickS s.2.1 c.2) := sel_uniq b1 (sel_mir a1) fun p _ _ => by
      rw [b2, inR_mir, inR_mir, a2]
      congr 1
      apply decide_eq_decide.mpr
      omega
    rw [this]
  · obtain ⟨a, ea⟩ : ∃ a, s.2.2 = some a := by
      rcases ck with e | e
      · exact absurd e k
      · exact Option.isSome_iff_exists.mp e.2
    have ha := h.anc a ea
    have e1 : nextS s c = (s.1, rangeS s.2.1 (min a c.2) (max a c.2) (inR s.2.1 a), some a) := by
      unfold nextS
      rw [if_neg k, ea]; rfl
    have e2 : nextS (mirS s) (c.1, n - 1 - c.2) = (n, rangeS (mir n s.2.1) (min (n - 1 - a) (n - 1 - c.2)) (max (n - 1 - a) (n - 1 - c.2)) (inR (mir n s.2.1) (n - 1 - a)), some (n - 1 - a)) := by
      unfold nextS mirS
      rw [if_neg k, ea, h.num]; rfl
    rw [e1, e2]
    unfold mirS
    show _ = (s.1, mir s.1 (rangeS s.2.1 (min a c.2) (max a c.2) (inR s.2.1 a)), some (s.1 - 1 - a))
    rw [h.num]
    obtain ⟨a1, a2⟩ := range_ok (m := inR s.2.1 a) h.sel (show 0 ≤ min a c.2 by omega) (show min a c.2 ≤ max a c.2 by omega) (show max a c.2 < n by omega)
    obtain ⟨b1, b2⟩ := range_ok (m := inR (mir n s.2.1) (n - 1 - a)) sm (show 0 ≤ min (n - 1 - a) (n - 1 - c.2) by omega) (show min (n - 1 - a) (n - 1 - c.2) ≤ max (n - 1 - a) (n - 1 - c.2) by omega) (show max (n - 1 - a) (n - 1 - c.2) < n by omega)
    have : rangeS (mir n s.2.1) (min (n - 1 - a) (n - 1 - c.2)) (max (n - 1 - a) (n - 1 - c.2)) (inR (mir n s.2.1) (n - 1 - a)) = mir n (rangeS s.2.1 (min a c.2) (max a c.2) (inR s.2.1 a)) := sel_uniq b1 (sel_mir a1) fun p _ _ => by
      rw [b2, inR_mir n (n - 1 - a) s.2.1, inR_mir n p s.2.1, inR_mir n p, a2, show n - 1 - (n - 1 - a) = a by omega]
      by_cases q : min a c.2 ≤ n - 1 - p ∧ n - 1 - p ≤ max a c.2
      · rw [if_pos q, if_pos (by omega)]
      · rw [if_neg q, if_neg (by omega)]
    rw [this]
end
/-- runs that stand outside -/
structure Out (n d w : Int) (A B : List (Int × Int)) : Prop where
  d0 : 0 ≤ d
  dw : d + n ≤ w
  a1 : ∀ r ∈ A, 0 ≤ r.1 ∧ r.1 ≤ r.2 ∧ r.2 + 1 < d
  a2 : A.Pairwise fun a b => a.2 + 1 < b.1
  b1 : ∀ r ∈ B, d + n < r.1 ∧ r.1 ≤ r.2 ∧ r.2 < w
  b2 : B.Pairwise fun a b => a.2 + 1 < b.1
def putS (d w : Int) (A B : List (Int × Int)) (s : StT) : StT := (w, A ++ mov d s.2.1 ++ B, s.2.2.map fun a => a + d)
section
variable {n d w : Int} {A B : List (Int × Int)} {s : StT} {c : CkT} {l : List (Int × Int)}
theorem put_sel (o : Out n d w A B) (h1 : 1 ≤ n) (h : Sel n l) : Sel w (A ++ mov d l ++ B) := by
  have hm := sel_mov h o.d0
  have lo : ∀ r ∈ mov d l, d ≤ r.1 := fun r hr => by
    obtain ⟨q, hq, e⟩ := List.mem_map.mp hr
    have := h.1 q hq
    rw [← e]
    show d ≤ q.1 + d
    omega
  have := o.dw
  have := o.d0
  refine ⟨fun r hr => ?_, List.pairwise_append.mpr ⟨List.pairwise_append.mpr ⟨o.a2, hm.2, fun x hx y hy => ?_⟩, o.b2, fun x hx y hy => ?_⟩⟩
  · rcases List.mem_append.mp hr with hr | hr
    · rcases List.mem_append.mp hr with hr | hr
      · have := o.a1 r hr; omega
      · have := hm.1 r hr; omega
    · have := o.b1 r hr; omega
  · have := o.a1 x hx
    have := lo y hy
    omega
  · have hb := o.b1 y hy
    rcases List.mem_append.mp hx with hx | hx
    · have := o.a1 x hx; omega
    · have := hm.1 x hx; omega
theorem put_marks (o : Out n d w A B) (p : Int) : inR (A ++ mov d l ++ B) p = (inR A p || inR l (p - d) || inR B p) := by
  rw [inR_app, inR_app, inR_mov]
theorem out_marks (o : Out n d w A B) {p : Int} (h0 : d ≤ p) (h1 : p < d + n) : inR A p = false ∧ inR B p = false := by
  constructor
  · unfold inR
    rw [List.any_eq_false]
    intro r hr
    have := o.a1 r hr
    simp only [Bool.and_eq_true, decide_eq_true_eq]
    omega
  · unfold inR
    rw [List.any_eq_false]
    intro r hr
    have := o.b1 r hr
    simp only [Bool.and_eq_true, decide_eq_true_eq]
    omega
theorem put_valid (o : Out n d w A B) (h : Vs n s) : Vs w (putS d w A B s) := ⟨rfl, by have := o.d0; have := o.dw; have := h.pos; omega, put_sel o h.pos h.sel, fun a e => by
  obtain ⟨b, eb, e2⟩ := Option.map_eq_some_iff.mp e
  have := h.anc b eb
  have := o.d0
  have := o.dw
  omega⟩
theorem put_next (o : Out n d w A B) (h : Vs n s) (hc : Can n s c) : nextS (putS d w A B s) (c.1, c.2 + d) = putS d w A B (nextS s c) := by
  obtain ⟨c0, c1, ck⟩ := hc
  have sm := put_sel (l := s.2.1) o h.pos h.sel
  have d0 := o.d0
  have dw := o.dw
  by_cases k : c.1 = ("click" : Str)
  · have e1 : nextS s c = (s.1, clickS s.2.1 c.2, some c.2) := if_pos k
    have e2 : nextS (putS d w A B s) (c.1, c.2 + d) = (w, clickS (A ++ mov d s.2.1 ++ B) (c.2 + d), some (c.2 + d)) := if_pos k
    rw [e1, e2]
    show _ = (w, A ++ mov d (clickS s.2.1 c.2) ++ B, some (c.2 + d))
    obtain ⟨a1, a2⟩ := click_ok h.sel c0 c1
    obtain ⟨b1, b2⟩ := click_ok (i := c.2 + d) sm (by omega) (by omega)
    have : clickS (A ++ mov d s.2.1 ++ B) (c.2 + d) = A ++ mov d (clickS s.2.1 c.2) ++ B := sel_uniq b1 (put_sel o h.pos a1) fun p _ _ => by
      rw [b2, put_marks o, put_marks o, a2]
      by_cases q : p = c.2 + d
      · obtain ⟨o1, o2⟩ := out_marks o (p := p) (by omega) (by omega)
        have q2 : p - d = c.2 := by omega
        rw [o1, o2, decide_eq_true q, decide_eq_true q2]
        cases inR s.2.1 (p - d) <;> rfl
      · have q2 : ¬ p - d = c.2 := by omega
        rw [decide_eq_false q, decide_eq_false q2]
        cases inR A p <;> cases inR s.2.1 (p - d) <;> cases inR B p <;> rfl
    rw [this]
  · obtain ⟨a, ea⟩ : ∃ a, s.2.2 = some a := by
      rcases ck with e | e
      · exact absurd e k
      · exact Option.isSome_iff_exists.mp e.2
    have ha := h.anc a ea
    have e1 : nextS s c = (s.1, rangeS s.2.1 (min a c.2) (max a c.2) (inR s.2.1 a), some a) := by
      unfold nextS
      rw [if_neg k, ea]; rfl
    have e2 : nextS (putS d w A B s) (c.1, c.2 + d) = (w, rangeS (A ++ mov d s.2.1 ++ B) (min (a + d) (c.2 + d)) (max (a + d) (c.2 + d)) (inR (A ++ mov d s.2.1 ++ B) (a + d)), some (a + d)) := by
      unfold nextS putS
      rw [if_neg k, ea]; rfl
    rw [e1, e2]
    show _ = (w, A ++ mov d (rangeS s.2.1 (min a c.2) (max a c.2) (inR s.2.1 a)) ++ B, some (a + d))
    obtain ⟨o1, o2⟩ := out_marks o (p := a + d) (by omega) (by omega)
    have em : inR (A ++ mov d s.2.1 ++ B) (a + d) = inR s.2.1 a := by
      rw [put_marks o, o1, o2, show a + d - d = a by omega]
      cases inR s.2.1 a <;> rfl
    rw [em]
    obtain ⟨a1, a2⟩ := range_ok (m := inR s.2.1 a) h.sel (show 0 ≤ min a c.2 by omega) (show min a c.2 ≤ max a c.2 by omega) (show max a c.2 < n by omega)
    obtain ⟨b1, b2⟩ := range_ok (m := inR s.2.1 a) sm (show 0 ≤ min (a + d) (c.2 + d) by omega) (show min (a + d) (c.2 + d) ≤ max (a + d) (c.2 + d) by omega) (show max (a + d) (c.2 + d) < w by omega)
    have : rangeS (A ++ mov d s.2.1 ++ B) (min (a + d) (c.2 + d)) (max (a + d) (c.2 + d)) (inR s.2.1 a) = A ++ mov d (rangeS s.2.1 (min a c.2) (max a c.2) (inR s.2.1 a)) ++ B := sel_uniq b1 (put_sel o h.pos a1) fun p _ _ => by
      rw [b2, put_marks o, put_marks o, a2]
      by_cases q : min a c.2 ≤ p - d ∧ p - d ≤ max a c.2
      · obtain ⟨o1, o2⟩ := out_marks o (p := p) (by omega) (by omega)
        rw [if_pos q, if_pos (by omega), o1, o2]
        cases inR s.2.1 a <;> rfl
      · rw [if_neg q, if_neg (by omega)]
    rw [this]
end
end Sx

/-! what the program's defs of clicks do -/
namespace Lw
open PySem PySem.Spec PyProof.Rows L2 Dx
theorem bord_loop {s : mborders_in_S} : ∀ (l : List (Int × Int)) (m : List Int), m.length + 2 * l.length ≤ 100000 → loopC (fun m x => mborders_in_L2c ((s, m), x)) (fun m x => mborders_in_L2s ((s, m), x)) l m ∧ loopF (fun m x => mborders_in_L2s ((s, m), x)) l m = m ++ Sx.bords l
  | [], m, _ => ⟨trivial, by simp [loopF, Sx.bords]⟩
  | r :: l, m, h => by
    have e : mborders_in_L2s ((s, m), r) = m ++ [r.1, r.2 + 1] := rfl
    simp only [List.length_cons] at h
    obtain ⟨h1, h2⟩ := bord_loop (s := s) l (m ++ [r.1, r.2 + 1]) (by simp; omega)
    refine ⟨⟨⟨?_, trivial⟩, h1⟩, ?_⟩
    · show m.length + 2 ≤ sizeLine
      have := line_big
      omega
    · show loopF (fun m x => mborders_in_L2s ((s, m), x)) l (mborders_in_L2s ((s, m), r)) = _
      rw [e, h2]
      simp [Sx.bords]
theorem bord_ok {l : List (Int × Int)} (h : l.length ≤ 1000) : mborders_in_p (l, ()) ∧ mborders_in (l, ()) = Sx.bords l := by
  obtain ⟨h1, h2⟩ := bord_loop (s := (l, ())) l [] (by simp; omega)
  refine ⟨⟨h1, trivial⟩, ?_⟩
  unfold mborders_in
  rw [hide_eq]
  unfold mborders_in_L2
  rw [LoopF_eq]
  exact h2
theorem from_ok (bs : List Int) : mfrom_borders_p (bs, ()) ∧ mfrom_borders (bs, ()) = Sx.fromB bs := by
  refine ⟨⟨fun _ _ => ⟨trivial, fun _ => trivial⟩, trivial⟩, ?_⟩
  unfold mfrom_borders
  rw [hide_eq, lcV_t, Sx.step2a, Sx.step2b]
  exact Sx.fromB_zip bs
theorem lcV_f {α : Type} (xs : List α) (p : α → Bool) : lcV xs p (fun x => x) = xs.filter p := by
  unfold lcV
  rw [List.map_id']
theorem marked_ok {l : List (Int × Int)} {p : Int} : mmarked_in_p (l, p, ()) ∧ mmarked_in (l, p, ()) = Sx.inR l p := by
  refine ⟨⟨fun _ _ => ⟨trivial, fun _ => trivial⟩, trivial⟩, ?_⟩
  unfold mmarked_in
  rw [hide_eq, lcV_t, List.any_map]
  rfl
theorem filter_le2 (l : List (Int × Int)) (p : Int → Bool) : ((Sx.bords l).filter p).length ≤ 2 * l.length := by
  have := List.length_filter_le p (Sx.bords l)
  rw [Sx.bords_len] at this
  exact this
theorem click_len (l : List (Int × Int)) (i : Int) : (Sx.clickS l i).length ≤ l.length + 1 := by
  unfold Sx.clickS
  rw [Sx.fromB_len, (sortI_perm _).length_eq, List.length_append]
  have h1 := filter_le2 l fun x => !decide (x ∈ [i, i + 1])
  have h2 := List.length_filter_le (fun x => !decide (x ∈ Sx.bords l)) [i, i + 1]
  simp only [List.length_cons, List.length_nil] at h2
  omega
theorem rangeB_len (l : List (Int × Int)) (a b : Int) (m : Bool) : (Sx.rangeB l a b m).length ≤ 2 * l.length + 2 := by
  have h1 := filter_le2 l fun x => !(decide (a ≤ x) && decide (x ≤ b + 1))
  unfold Sx.rangeB
  show (if _ then _ else _ : List Int).length ≤ _
  split <;> split <;> (try simp only [List.length_append, List.length_singleton]) <;> omega
theorem range_len (l : List (Int × Int)) (a b : Int) (m : Bool) : (Sx.rangeS l a b m).length ≤ l.length + 1 := by
  unfold Sx.rangeS
  rw [Sx.fromB_len, (sortI_perm _).length_eq]
  have := rangeB_len l a b m
  omega
theorem next_len (s : Sx.StT) (c : Sx.CkT) : (Sx.nextS s c).2.1.length ≤ s.2.1.length + 1 := by
  unfold Sx.nextS
  split
  · exact click_len _ _
  · exact range_len _ _ _ _
theorem wclick_ok {l : List (Int × Int)} {i : Int} (hl : l.length ≤ 1000) : mwith_click_p (l, i, ()) ∧ mwith_click (l, i, ()) = Sx.clickS l i := by
  obtain ⟨b1, b2⟩ := bord_ok hl
  have e1 : mwith_click_c1 (l, i, ()) = Sx.bords l := b2
  have e3 : mwith_click_v_kept_3 (l, i, ()) = (Sx.bords l).filter fun x => !decide (x ∈ [i, i + 1]) := by
    unfold mwith_click_v_kept_3
    rw [e1]
    exact lcV_f _ _
  have e4 : (lcV [((mwith_click_v_ends_2 (l, i, ()))).1, ((mwith_click_v_ends_2 (l, i, ()))).2] (fun x => (!decide (x ∈ (mwith_click_c1 (l, i, ()))))) (fun x => x)) = [i, i + 1].filter fun x => !decide (x ∈ Sx.bords l) := by
    rw [e1]
    exact lcV_f _ _
  have big := line_big
  refine ⟨⟨b1, fun _ _ => ⟨trivial, fun _ => trivial⟩, fun _ _ => ⟨trivial, fun _ => trivial⟩, ?_, (from_ok _).1, trivial⟩, ?_⟩
  · show (mwith_click_v_kept_3 (l, i, ())).length + (lcV [((mwith_click_v_ends_2 (l, i, ()))).1, ((mwith_click_v_ends_2 (l, i, ()))).2] (fun x => (!decide (x ∈ (mwith_click_c1 (l, i, ()))))) (fun x => x)).length ≤ sizeLine
    rw [e3, e4]
    have h1 := filter_le2 l fun x => !decide (x ∈ [i, i + 1])
    have h2 := List.length_filter_le (fun x => !decide (x ∈ Sx.bords l)) [i, i + 1]
    simp only [List.length_cons, List.length_nil] at h2
    omega
  · unfold mwith_click
    rw [hide_eq]
    unfold mwith_click_c4
    rw [(from_ok _).2]
    show Sx.fromB (sortI (mwith_click_v_kept_3 (l, i, ()) ++ (lcV [((mwith_click_v_ends_2 (l, i, ()))).1, ((mwith_click_v_ends_2 (l, i, ()))).2] (fun x => (!decide (x ∈ (mwith_click_c1 (l, i, ()))))) (fun x => x)))) = _
    rw [e3, e4]
    rfl
theorem bne_eq (a b : Bool) : (!(dfBool).eq a b) = (a != b) := by cases a <;> cases b <;> rfl
theorem wrange_ok {l : List (Int × Int)} {a b : Int} {m : Bool} (hl : l.length ≤ 1000) : mwith_range_p (l, a, b, m, ()) ∧ mwith_range (l, a, b, m, ()) = Sx.rangeS l a b m := by
  obtain ⟨b1, b2⟩ := bord_ok hl
  obtain ⟨s, es⟩ : ∃ s : mwith_range_S, s = (l, a, b, m, ()) := ⟨_, rfl⟩
  have e1 : mwith_range_c1 (l, a, b, m, ()) = Sx.bords l := b2
  have e2 : mwith_range_v_borders_2 (l, a, b, m, ()) = (Sx.bords l).filter fun x => !(decide (a ≤ x) && decide (x ≤ b + 1)) := by
    unfold mwith_range_v_borders_2
    rw [e1]
    exact lcV_f _ _
  have e5 : mwith_range_h5 (l, a, b, m, ()) = (Sx.inR l (a - 1) != m) := by
    unfold mwith_range_h5 mwith_range_c3
    rw [marked_ok.2, bne_eq]
  have e9 : mwith_range_h9 (l, a, b, m, ()) = (Sx.inR l (b + 1) != m) := by
    unfold mwith_range_h9 mwith_range_c7
    rw [marked_ok.2, bne_eq]
  have e6 : mwith_range_v_borders_6 (l, a, b, m, ()) = if (Sx.inR l (a - 1) != m) = true then ((Sx.bords l).filter fun x => !(decide (a ≤ x) && decide (x ≤ b + 1))) ++ [a] else (Sx.bords l).filter fun x => !(decide (a ≤ x) && decide (x ≤ b + 1)) := by
    unfold mwith_range_v_borders_6 mwith_range_v_borders_4
    rw [e5, e2]
  have e10 : mwith_range_v_borders_10 (l, a, b, m, ()) = Sx.rangeB l a b m := by
    unfold mwith_range_v_borders_10 mwith_range_v_borders_8
    rw [e9, e6]
    rfl
  have h1 := filter_le2 l fun x => !(decide (a ≤ x) && decide (x ≤ b + 1))
  have big := line_big
  refine ⟨⟨b1, fun _ _ => ⟨trivial, fun _ => trivial⟩, marked_ok.1, fun _ => ?_, marked_ok.1, fun _ => ?_, (from_ok _).1, trivial⟩, ?_⟩
  · show (mwith_range_v_borders_2 (l, a, b, m, ())).length < sizeLine
    rw [e2]
    omega
  · show (mwith_range_v_borders_6 (l, a, b, m, ())).length < sizeLine
    rw [e6]
    split <;> (try simp only [List.length_append, List.length_singleton]) <;> omega
  · unfold mwith_range
    rw [hide_eq]
    unfold mwith_range_c11
    rw [(from_ok _).2, e10]
    rfl
theorem next_ok {n : Int} {s : Sx.StT} {c : Sx.CkT} (h : Sx.Vs n s) (hc : Sx.Can n s c) (hl : s.2.1.length ≤ 1000) : mnext_state_p (s, c, ()) ∧ mnext_state (s, c, ()) = Sx.nextS s c := by
  by_cases k : c.1 = ("click" : Str)
  · have ek : (dfStr).eq c.1 ("click" : Str) = true := df_t.mpr k
    obtain ⟨w1, w2⟩ := wclick_ok (i := c.2) hl
    refine ⟨⟨?_, trivial⟩, ?_⟩
    · show if (dfStr).eq c.1 ("click" : Str) = true then _ else _
      rw [if_pos ek]
      exact ⟨w1, trivial⟩
    · unfold mnext_state
      rw [hide_eq]
      show (if (dfStr).eq c.1 ("click" : Str) = true then (s.1, mwith_click (s.2.1, c.2, ()), some c.2) else _) = _
      rw [if_pos ek, w2]
      unfold Sx.nextS
      rw [if_pos k]
  · have ek : ¬ (dfStr).eq c.1 ("click" : Str) = true := fun z => k (df_t.mp z)
    have hs : s.2.2.isSome = true := by
      rcases hc.2.2 with e | e
      · exact absurd e k
      · exact e.2
    obtain ⟨w1, w2⟩ := wrange_ok (a := min (s.2.2.getD 0) c.2) (b := max (s.2.2.getD 0) c.2) (m := Sx.inR s.2.1 (s.2.2.getD 0)) hl
    have e4 : mnext_state_c4 (s, c, ()) = Sx.inR s.2.1 (s.2.2.getD 0) := marked_ok.2
    refine ⟨⟨?_, trivial⟩, ?_⟩
    · show if (dfStr).eq c.1 ("click" : Str) = true then _ else _
      rw [if_neg ek]
      refine ⟨hs, marked_ok.1, hs, hs, ?_, trivial⟩
      show mwith_range_p (s.2.1, (min (s.2.2.getD 0) c.2), (max (s.2.2.getD 0) c.2), (mnext_state_c4 (s, c, ())), ())
      rw [e4]
      exact w1
    · unfold mnext_state
      rw [hide_eq]
      show (if (dfStr).eq c.1 ("click" : Str) = true then _ else (s.1, mwith_range (s.2.1, (min (s.2.2.getD 0) c.2), (max (s.2.2.getD 0) c.2), (mnext_state_c4 (s, c, ())), ()), s.2.2)) = _
      rw [if_neg ek, e4, w2]
      unfold Sx.nextS
      rw [if_neg k]
theorem play_loop {n : Int} {t : mplay_S} : ∀ (cs : List Sx.CkT) (s : Sx.StT) (st : List Sx.StT), Sx.Vs n s → Sx.Cans n s cs → s.2.1.length + cs.length ≤ 1000 → st.length + cs.length ≤ 10000 →
    loopC (fun m x => mplay_L3c ((t, m), x)) (fun m x => mplay_L3s ((t, m), x)) cs (st ++ [s]) ∧ loopF (fun m x => mplay_L3s ((t, m), x)) cs (st ++ [s]) = st ++ Sx.runS s cs
  | [], s, st, _, _, _, _ => ⟨trivial, rfl⟩
  | c :: cs, s, st, h, hc, hl, hn => by
    simp only [List.length_cons] at hl hn
    obtain ⟨n1, n2⟩ := next_ok h hc.1 (by omega)
    have e4 : mplay_c4 ((t, st ++ [s]), c) = Sx.nextS s c := by
      unfold mplay_c4
      show mnext_state (ixI _ (st ++ [s]) (-1), c, ()) = _
      rw [ix_last]
      exact n2
    have es : mplay_L3s ((t, st ++ [s]), c) = (st ++ [s]) ++ [Sx.nextS s c] := by
      show (st ++ [s]) ++ [mplay_c4 ((t, st ++ [s]), c)] = _
      rw [e4]
    have nl := next_len s c
    obtain ⟨i1, i2⟩ := play_loop (t := t) cs (Sx.nextS s c) (st ++ [s]) (Sx.next_valid h hc.1) hc.2 (by omega) (by simp; omega)
    have big := line_big
    refine ⟨⟨⟨ixOk_last (by simp), ?_, ?_, trivial⟩, ?_⟩, ?_⟩
    · show mnext_state_p (ixI _ (st ++ [s]) (-1), c, ())
      rw [ix_last]
      exact n1
    · show (st ++ [s]).length < sizeLine
      simp
      omega
    · show loopC _ _ cs (mplay_L3s ((t, st ++ [s]), c))
      rw [es]; exact i1
    · show loopF _ cs (mplay_L3s ((t, st ++ [s]), c)) = _
      rw [es, i2]
      show (st ++ [s]) ++ Sx.runS (Sx.nextS s c) cs = st ++ (s :: Sx.runS (Sx.nextS s c) cs)
      simp
theorem play_ok {n : Int} {s : Sx.StT} {cs : List Sx.CkT} (h : Sx.Vs n s) (hc : Sx.Cans n s cs) (hl : s.2.1.length + cs.length ≤ 1000) : mplay_p (s, cs, ()) ∧ mplay (s, cs, ()) = Sx.runS s cs := by
  obtain ⟨h1, h2⟩ := play_loop (t := (s, cs, ())) cs s [] h hc hl (by simp; omega)
  refine ⟨⟨h1, trivial⟩, ?_⟩
  unfold mplay
  rw [hide_eq]
  unfold mplay_L3
  rw [LoopF_eq]
  exact h2
end Lw

/-! what the law draws; checks of states and click lists -/
namespace Lw
open PySem PySem.Spec PyProof.Rows L2 Dx
theorem loop_res {M α R : Type} {step : M → α → M} {c : M → α → Prop} {r : M → α → Option R} (I : Nat → M → Prop) (P : R → Prop) : ∀ (xs : List α) (k : Nat) (m : M), I k m → (∀ j m x, j < k + xs.length → x ∈ xs → I j m → c m x ∧ (∀ v, r m x = some v → P v) ∧ (r m x = none → I (j + 1) (step m x))) →
    loopCr c r step xs m ∧ (∀ v, loopR r step xs m = some v → P v) ∧ (loopR r step xs m = none → I (k + xs.length) (loopF step xs m))
  | [], k, m, h, _ => ⟨trivial, fun v e => (nomatch e), fun _ => h⟩
  | x :: xs, k, m, h, hs => by
    obtain ⟨h1, h2, h3⟩ := hs k m x (by simp) (List.mem_cons_self ..) h
    cases e : r m x with
    | some v =>
      refine ⟨⟨h1, fun q => by rw [e] at q; cases q⟩, fun w q => ?_, fun q => ?_⟩
      · unfold loopR at q
        rw [e] at q
        cases q
        exact h2 v e
      · unfold loopR at q
        rw [e] at q
        cases q
    | none =>
      obtain ⟨h4, h5, h6⟩ := loop_res I P xs (k + 1) (step m x) (h3 e) fun j m y hj hy => hs j m y (by simp; omega) (List.mem_cons_of_mem _ hy)
      refine ⟨⟨h1, fun _ => h4⟩, fun w q => ?_, fun q => ?_⟩
      · unfold loopR at q
        rw [e] at q
        exact h5 w q
      · unfold loopR at q
        rw [e] at q
        rw [show k + (x :: xs).length = k + 1 + xs.length by simp; omega]
        exact h6 q
theorem len4 {α : Type} {l : List α} {i : Int} {n : Nat} (hl : l.length = n) (h0 : 0 ≤ i) (h1 : i < n) : IxOk l i := by
  unfold IxOk
  rw [hl]
  omega
theorem small_log {z : Int} (h0 : 0 ≤ z) (h : z ≤ 1000000000000000000000000000000) : z.natAbs.log2 < 9000 := wide_ok (n := 0) h h0
theorem start_ok {n : Nat} {b : List Int} {z M : Int} (g : Good n b) (hn : n ≤ 900000) (z1 : 1 ≤ z) (z2 : z ≤ 1000000000000000000000000000000) (hM : 0 ≤ M) (hM2 : M ≤ 100) : m_law_marked_p (b, z, M, ()) ∧ Good (n + 600) (m_law_marked (b, z, M, ())).1 ∧ Sx.Sel z (m_law_marked (b, z, M, ())).2 ∧ (m_law_marked (b, z, M, ())).2.length ≤ 100 := by
  obtain ⟨s, es⟩ : ∃ s : m_law_marked_S, s = (b, z, M, ()) := ⟨_, rfl⟩
  obtain ⟨p1, g1, a1, b1⟩ := draw (c := min z 4) g (by omega) (by omega) (small_log (by omega) (by omega))
  obtain ⟨p2, g2, a2, b2⟩ := draw (c := M + 1) g1 (by omega) (by omega) (small_log (by omega) (by omega))
  have e1 : m_law_draw (b, min z 4, ()) = m_law_marked_c1 s := by rw [es]; rfl
  rw [e1] at g1 a1 b1 p2 g2 a2 b2
  have e2 : m_law_draw ((m_law_marked_c1 s).1, M + 1, ()) = m_law_marked_c3 s := by rw [es]; rfl
  rw [e2] at g2 a2 b2
  have s2 : s.2.1 = z := by rw [es]
  have hxl : (m_law_marked_L4x s).length ≤ 100 := by
    unfold m_law_marked_L4x
    rw [rangeL_len]
    omega
  have big := line_big
  have main := loop_res (c := fun m x => m_law_marked_L4c ((s, m), x)) (r := fun m x => m_law_marked_L4r ((s, m), x)) (step := fun m x => m_law_marked_L4s ((s, m), x))
    (fun k (m : m_law_marked_L4M) => Good (n + 2 + 5 * k) m.1 ∧ Sx.Sel z m.2.1 ∧ 0 ≤ m.2.2 ∧ (∀ r ∈ m.2.1, r.2 + 2 ≤ m.2.2) ∧ m.2.1.length ≤ k) (fun v => Good (n + 600) v.1 ∧ Sx.Sel z v.2 ∧ v.2.length ≤ 100) (m_law_marked_L4x s) 0 (m_law_marked_L4i s)
    ⟨g2, ⟨fun _ h => (nomatch h), .nil⟩, a1, fun _ h => (nomatch h), Nat.le_refl _⟩ fun j m x hj hx ⟨h1, h2, h3, h4, h5⟩ => by
    obtain ⟨t, et⟩ : ∃ t : m_law_marked_L4T, t = ((s, m), x) := ⟨_, rfl⟩
    rw [← et]
    have t0 : t.1.1 = s := by rw [et]
    have t1 : t.1.2 = m := by rw [et]
    have eh : m_law_marked_h5 t = decide (z ≤ m.2.2) := by unfold m_law_marked_h5; rw [t0, t1, s2]
    by_cases hz : z ≤ m.2.2
    · have e5 : m_law_marked_h5 t = true := by rw [eh]; exact decide_eq_true hz
      have er : m_law_marked_L4r t = some (m.1, m.2.1) := by unfold m_law_marked_L4r; rw [e5, t1]; rfl
      refine ⟨⟨fun q => ?_, trivial⟩, fun v q => ?_, fun q => ?_⟩
      · rw [e5] at q; cases q
      · rw [er] at q
        cases q
        exact ⟨h1.mono (by omega), h2, by show m.2.1.length ≤ 100; omega⟩
      · rw [er] at q; cases q
    · have e5 : m_law_marked_h5 t = false := by rw [eh]; exact decide_eq_false hz
      have er : m_law_marked_L4r t = none := by unfold m_law_marked_L4r; rw [e5]; rfl
      obtain ⟨q6, k6, c6, d6⟩ := draw (c := 6) h1 (by omega) (by decide) (by decide)
      have f6 : m_law_draw (m.1, 6, ()) = m_law_marked_c6 t := by unfold m_law_marked_c6; rw [t1]
      rw [f6] at k6 c6 d6
      obtain ⟨q7, k7, c7, d7⟩ := draw (c := z) k6 (by omega) (by omega) (small_log (by omega) z2)
      have f7 : m_law_draw ((m_law_marked_c6 t).1, z, ()) = m_law_marked_c7 t := by unfold m_law_marked_c7; rw [t0, s2]
      rw [f7] at k7 c7 d7
      obtain ⟨q8, k8, c8, d8⟩ := draw (c := 5) k7 (by omega) (by decide) (by decide)
      have f8 : m_law_draw ((m_law_marked_c7 t).1, 5, ()) = m_law_marked_c8 t := rfl
      rw [f8] at k8 c8 d8
      obtain ⟨q11, k11, c11, d11⟩ := draw (c := 5) k8 (by omega) (by decide) (by decide)
      have f11 : m_law_draw ((m_law_marked_c8 t).1, 5, ()) = m_law_marked_c11 t := rfl
      rw [f11] at k11 c11 d11
      obtain ⟨q12, k12, c12, d12⟩ := draw (c := 4) k11 (by omega) (by decide) (by decide)
      have f12 : m_law_draw ((m_law_marked_c11 t).1, 4, ()) = m_law_marked_c12 t := rfl
      rw [f12] at k12 c12 d12
      have i8 : IxOk ([(0 : Int), (0 : Int), (1 : Int), (m_law_marked_c6 t).2, (m_law_marked_c7 t).2] : List Int) (m_law_marked_c8 t).2 := len4 (n := 5) rfl c8 d8
      have i12 : IxOk ([(0 : Int), (0 : Int), (1 : Int), (m_law_marked_c11 t).2] : List Int) (m_law_marked_c12 t).2 := len4 (n := 4) rfl c12 d12
      have v8 : 0 ≤ ixI (0 : Int) ([(0 : Int), (0 : Int), (1 : Int), (m_law_marked_c6 t).2, (m_law_marked_c7 t).2] : List Int) (m_law_marked_c8 t).2 := ix_all (fun x => 0 ≤ x) i8 (by intro x hx; simp at hx; omega)
      have v12 : 0 ≤ ixI (0 : Int) ([(0 : Int), (0 : Int), (1 : Int), (m_law_marked_c11 t).2] : List Int) (m_law_marked_c12 t).2 := ix_all (fun x => 0 ≤ x) i12 (by intro x hx; simp at hx; omega)
      have el : m_law_marked_v_last_9 t = min (z - 1) (m.2.2 + ixI (0 : Int) ([(0 : Int), (0 : Int), (1 : Int), (m_law_marked_c6 t).2, (m_law_marked_c7 t).2] : List Int) (m_law_marked_c8 t).2) := by unfold m_law_marked_v_last_9; rw [t0, t1, s2]
      have ea : m_law_marked_v_at_13 t = (m_law_marked_v_last_9 t + 2) + ixI (0 : Int) ([(0 : Int), (0 : Int), (1 : Int), (m_law_marked_c11 t).2] : List Int) (m_law_marked_c12 t).2 := rfl
      have ef : m_law_marked_v_found_10 t = m.2.1 ++ [(m.2.2, m_law_marked_v_last_9 t)] := by unfold m_law_marked_v_found_10; rw [t1]
      refine ⟨⟨fun _ => ⟨?_, ?_, q8, i8, ?_, q11, q12, i12, trivial⟩, trivial⟩, fun v q => ?_, fun _ => ?_⟩
      · show m_law_draw_p (t.1.2.1, 6, ())
        rw [t1]; exact q6
      · show m_law_draw_p ((m_law_marked_c6 t).1, t.1.1.2.1, ())
        rw [t0, s2]; exact q7
      · show t.1.2.2.1.length < sizeLine
        rw [t1]; omega
      · rw [er] at q; cases q
      · show Good _ (m_law_marked_c12 t).1 ∧ Sx.Sel z (m_law_marked_v_found_10 t) ∧ 0 ≤ m_law_marked_v_at_13 t ∧ (∀ r ∈ m_law_marked_v_found_10 t, r.2 + 2 ≤ m_law_marked_v_at_13 t) ∧ (m_law_marked_v_found_10 t).length ≤ j + 1
        rw [ef]
        refine ⟨k12.mono (by omega), Sx.sel_app h2 h3 (by omega) (by omega) fun r hr => by have := h4 r hr; omega, by omega, fun r hr => ?_, by simp; omega⟩
        rcases List.mem_append.mp hr with y | y
        · have := h4 r y; omega
        · rw [List.mem_singleton.mp y]
          show m_law_marked_v_last_9 t + 2 ≤ _
          omega
  obtain ⟨lc, lr, lf⟩ := main
  rw [← es]
  refine ⟨⟨by subst es; exact p1, ?_, rg_ok a2 (by omega), lc, fun _ => trivial, trivial⟩, ?_⟩
  · subst es
    exact p2
  · unfold m_law_marked
    rw [hide_eq]
    have eR : m_law_marked_L4R s = loopR (fun m x => m_law_marked_L4r ((s, m), x)) (fun m x => m_law_marked_L4s ((s, m), x)) (m_law_marked_L4x s) (m_law_marked_L4i s) := by unfold m_law_marked_L4R; rw [LoopR_eq]
    rw [eR]
    cases e : loopR (fun m x => m_law_marked_L4r ((s, m), x)) (fun m x => m_law_marked_L4s ((s, m), x)) (m_law_marked_L4x s) (m_law_marked_L4i s) with
    | some v => exact lr v e
    | none =>
      have h := lf e
      rw [Nat.zero_add] at h
      have eL : m_law_marked_L4 s = loopF (fun m x => m_law_marked_L4s ((s, m), x)) (m_law_marked_L4x s) (m_law_marked_L4i s) := by unfold m_law_marked_L4; rw [LoopF_eq]
      rw [← eL] at h
      obtain ⟨h1, h2, _, _, h5⟩ := h
      exact ⟨h1.mono (by omega), h2, by show (m_law_marked_L4 s).2.1.length ≤ 100; omega⟩
theorem item_ok {n : Nat} {b : List Int} {z near : Int} (g : Good n b) (hn : n ≤ 990000) (z1 : 1 ≤ z) (z2 : z ≤ 1000000000000000000000000000000) : m_law_item_p (b, z, near, ()) ∧ Good (n + 5) (m_law_item (b, z, near, ())).1 ∧ 0 ≤ (m_law_item (b, z, near, ())).2 ∧ (m_law_item (b, z, near, ())).2 < z := by
  obtain ⟨p1, g1, a1, b1⟩ := draw (c := z) g (by omega) (by omega) (small_log (by omega) z2)
  obtain ⟨p2, g2, a2, b2⟩ := draw (c := min z 12) g1 (by omega) (by omega) (small_log (by omega) (by omega))
  obtain ⟨p3, g3, a3, b3⟩ := draw (c := min z 6) g2 (by omega) (by omega) (small_log (by omega) (by omega))
  obtain ⟨p4, g4, a4, b4⟩ := draw (c := 7) g3 (by omega) (by decide) (by decide)
  obtain ⟨p5, g5, a5, b5⟩ := draw (c := 4) g4 (by omega) (by decide) (by decide)
  have hix : IxOk (m_law_item_v_some_6 (b, z, near, ())) (m_law_item_c7 (b, z, near, ())).2 := len4 (n := 4) rfl a5 b5
  have hall : ∀ x ∈ m_law_item_v_some_6 (b, z, near, ()), 0 ≤ x ∧ x < z := by
    intro x hx
    have e1 : 0 ≤ (m_law_item_c1 (b, z, near, ())).2 := a1
    have e1' : (m_law_item_c1 (b, z, near, ())).2 < z := b1
    have e2 : 0 ≤ (m_law_item_c2 (b, z, near, ())).2 := a2
    have e2' : (m_law_item_c2 (b, z, near, ())).2 < min z 12 := b2
    have e3 : 0 ≤ (m_law_item_c3 (b, z, near, ())).2 := a3
    have e3' : (m_law_item_c3 (b, z, near, ())).2 < min z 6 := b3
    have hx' : x = (m_law_item_c1 (b, z, near, ())).2 ∨ x = (m_law_item_c2 (b, z, near, ())).2 ∨ x = z - 1 - (m_law_item_c3 (b, z, near, ())).2 ∨ x = min (z - 1) (max 0 (near + (m_law_item_c5 (b, z, near, ())).2 - 3)) := by
      simpa [m_law_item_v_some_6, m_law_item_v_some_4] using hx
    omega
  refine ⟨⟨p1, p2, p3, p4, (by decide : 3 < sizeLine), p5, hix, trivial⟩, ?_⟩
  unfold m_law_item
  rw [hide_eq]
  exact ⟨g5.mono (by omega), ix_all (fun x => 0 ≤ x ∧ x < z) hix hall⟩
/-- a click list that can be done with the anchor A -/
def Ckl (z : Int) (A : Option Int) (l : List (Str × Int)) : Prop := (∀ c ∈ l, 0 ≤ c.2 ∧ c.2 < z ∧ (c.1 = ("click" : Str) ∨ c.1 = ("range" : Str))) ∧ ∀ c r, l = c :: r → c.1 = ("click" : Str) ∨ A.isSome = true
theorem pressed_ok {n : Nat} {b : List Int} {z M : Int} {A : Option Int} (g : Good n b) (hn : n ≤ 900000) (z1 : 1 ≤ z) (z2 : z ≤ 1000000000000000000000000000000) (hM : 0 ≤ M) (hM2 : M ≤ 200) : m_law_pressed_p (b, z, M, A, ()) ∧ Good (n + 1300) (m_law_pressed (b, z, M, A, ())).1 ∧ Ckl z A (m_law_pressed (b, z, M, A, ())).2 ∧ (m_law_pressed (b, z, M, A, ())).2.length ≤ 200 := by
  obtain ⟨s, es⟩ : ∃ s : m_law_pressed_S, s = (b, z, M, A, ()) := ⟨_, rfl⟩
  obtain ⟨p1, g1, a1, b1⟩ := draw (c := M + 1) g (by omega) (by omega) (small_log (by omega) (by omega))
  obtain ⟨p2, g2, a2, b2⟩ := draw (c := 2) g1 (by omega) (by decide) (by decide)
  have e1 : m_law_draw (b, M + 1, ()) = m_law_pressed_c3 s := by rw [es]; rfl
  rw [e1] at g1 a1 b1 p2 g2 a2 b2
  have e2 : m_law_draw ((m_law_pressed_c3 s).1, 2, ()) = m_law_pressed_c4 s := rfl
  rw [e2] at g2 a2 b2
  have s2 : s.2.1 = z := by rw [es]
  have s3 : s.2.2.1 = M := by rw [es]
  have s4 : s.2.2.2.1 = A := by rw [es]
  have i4 : IxOk ([(m_law_pressed_c3 s).2, s.2.2.1] : List Int) (m_law_pressed_c4 s).2 := len4 (n := 2) rfl a2 b2
  have v4 : 0 ≤ ixI (0 : Int) ([(m_law_pressed_c3 s).2, s.2.2.1] : List Int) (m_law_pressed_c4 s).2 ∧ ixI (0 : Int) ([(m_law_pressed_c3 s).2, s.2.2.1] : List Int) (m_law_pressed_c4 s).2 ≤ 200 := ix_all (fun x => 0 ≤ x ∧ x ≤ 200) i4 (by rw [s3]; intro x hx; simp at hx; omega)
  have hxl : (m_law_pressed_L5x s).length ≤ 200 := by
    unfold m_law_pressed_L5x
    rw [rangeL_len]
    omega
  have big := line_big
  have main := loop_inv (c := fun m x => m_law_pressed_L5c ((s, m), x)) (step := fun m x => m_law_pressed_L5s ((s, m), x)) (fun k (m : m_law_pressed_L5M) => Good (n + 2 + 6 * k) m.1 ∧ Ckl z A m.2.1 ∧ m.2.1.length ≤ k) (m_law_pressed_L5x s) 0 (m_law_pressed_L5i s)
    ⟨g2, ⟨fun _ h => (nomatch h), fun _ _ h => (nomatch h)⟩, Nat.le_refl _⟩ fun j m x _ hj hx ⟨h1, h2, h3⟩ => by
    obtain ⟨t, et⟩ : ∃ t : m_law_pressed_L5T, t = ((s, m), x) := ⟨_, rfl⟩
    rw [← et]
    have t0 : t.1.1 = s := by rw [et]
    have t1 : t.1.2 = m := by rw [et]
    obtain ⟨q6, k6, c6, d6⟩ := item_ok (near := m.2.2) h1 (by omega) z1 z2
    have f6 : m_law_item (m.1, z, m.2.2, ()) = m_law_pressed_c6 t := by unfold m_law_pressed_c6; rw [t0, t1, s2]
    rw [f6] at k6 c6 d6
    obtain ⟨q7, k7, c7, d7⟩ := draw (c := 2) k6 (by omega) (by decide) (by decide)
    have f7 : m_law_draw ((m_law_pressed_c6 t).1, 2, ()) = m_law_pressed_c7 t := rfl
    rw [f7] at k7
    have e8 : m_law_pressed_v_is_range_8 t = (((dfInt).eq (m_law_pressed_c7 t).2 (1 : Int)) && ((!((dfList (dfT2 dfStr dfInt))).eq m.2.1 ([] : List (Str × Int))) || A.isSome)) := by
      unfold m_law_pressed_v_is_range_8
      rw [t0, t1, s4]
    have e9 : m_law_pressed_v_found_9 t = m.2.1 ++ [((if (m_law_pressed_v_is_range_8 t) = true then ("range" : Str) else ("click" : Str)), (m_law_pressed_c6 t).2)] := by
      unfold m_law_pressed_v_found_9
      rw [t1]
    refine ⟨⟨?_, q7, ?_, trivial⟩, ?_, ?_, ?_⟩
    · show m_law_item_p (t.1.2.1, t.1.1.2.1, t.1.2.2.2, ())
      rw [t0, t1, s2]; exact q6
    · show t.1.2.2.1.length < sizeLine
      rw [t1]; omega
    · exact k7.mono (by omega)
    · show Ckl z A (m_law_pressed_v_found_9 t)
      rw [e9]
      refine ⟨fun c hc => ?_, fun c r e => ?_⟩
      · rcases List.mem_append.mp hc with y | y
        · exact h2.1 c y
        · rw [List.mem_singleton.mp y]
          refine ⟨c6, d6, ?_⟩
          show (if (m_law_pressed_v_is_range_8 t) = true then ("range" : Str) else ("click" : Str)) = _ ∨ (if (m_law_pressed_v_is_range_8 t) = true then ("range" : Str) else ("click" : Str)) = _
          split
          · exact .inr rfl
          · exact .inl rfl
      · cases em : m.2.1 with
        | cons c' r' =>
          rw [em] at e
          have e' : c' :: (r' ++ [_]) = c :: r := e
          injection e' with q1 q2
          rw [← q1]
          exact h2.2 c' r' em
        | nil =>
          rw [em] at e
          have e' : [((if (m_law_pressed_v_is_range_8 t) = true then ("range" : Str) else ("click" : Str)), (m_law_pressed_c6 t).2)] = c :: r := e
          injection e' with q1 q2
          rw [← q1]
          show (if (m_law_pressed_v_is_range_8 t) = true then ("range" : Str) else ("click" : Str)) = _ ∨ _
          split
          · rename_i hr
            right
            rw [e8, em, df_t.mpr rfl, Bool.and_eq_true] at hr
            simpa using hr.2
          · exact .inl rfl
    · show (m_law_pressed_v_found_9 t).length ≤ j + 1
      rw [e9]
      simp
      omega
  obtain ⟨lc, lf⟩ := main
  rw [Nat.zero_add] at lf
  have eL : m_law_pressed_L5 s = loopF (fun m x => m_law_pressed_L5s ((s, m), x)) (m_law_pressed_L5x s) (m_law_pressed_L5i s) := by unfold m_law_pressed_L5; rw [LoopF_eq]
  rw [← eL] at lf
  rw [← es]
  refine ⟨⟨fun h => ?_, ?_, p2, i4, rg_ok v4.1 (by omega), lc, trivial⟩, ?_⟩
  · cases hA : s.2.2.2.1 with
    | none => rw [hA] at h; cases h
    | some a => rfl
  · subst es
    exact p1
  · unfold m_law_pressed
    rw [hide_eq]
    obtain ⟨f1, f2, f3⟩ := lf
    exact ⟨f1.mono (by omega), f2, by show (m_law_pressed_L5 s).2.1.length ≤ 200; omega⟩
theorem cans {z : Int} {s : Sx.StT} {l : List (Str × Int)} (h : Ckl z s.2.2 l) : Sx.Cans z s l := by
  cases l with
  | nil => trivial
  | cons c r =>
    obtain ⟨a, b, k⟩ := h.1 c (List.mem_cons_self ..)
    have hc : Sx.Can z s c := ⟨a, b, by
      rcases k with e | e
      · exact .inl e
      · rcases h.2 c r rfl with q | q
        · exact .inl q
        · exact .inr ⟨e, q⟩⟩
    exact ⟨hc, Sx.cans_of (fun x hx => h.1 x (List.mem_cons_of_mem _ hx)) (Sx.next_some hc)⟩
/-! ### checks -/
theorem chk_items {z : Int} (hz : 1 ≤ z) (hz2 : z ≤ 1000000000000000000000000000000) : mcheck_items_p (z, ()) := by
  have e1 : mcheck_items_c1 (z, ()) = true := isint.mpr ⟨hz, hz2⟩
  refine ⟨trivial, fun q => ?_, trivial⟩
  rw [e1] at q; exact absurd q (by decide)
theorem state_ok {n : Int} {s : Sx.StT} (h : Sx.Vs n s) (n2 : n ≤ 1000000000000000000000000000000) : mcheck_state_p (s, ()) := by
  have c1 : mis_state_c1 (s, ()) = true := isint.mpr ⟨by show 1 ≤ s.1; rw [h.num]; exact h.pos, by show s.1 ≤ _; rw [h.num]; exact n2⟩
  have hs : Sel s.1 s.2.1 := by rw [h.num]; exact h.sel
  obtain ⟨r1, r2⟩ := areruns hs
  have c3 : mis_state_c3 (s, ()) = true := by
    show mis_selection (s.1, s.2.1, ()) = true
    unfold mis_selection
    rw [hide_eq]
    exact r2
  have e1 : ((!true) || ((!(dfInt).eq (3 : Int) (3 : Int)) || (!(mis_state_c1 (s, ()))))) = false := by rw [c1, df_t.mpr rfl]; rfl
  have anc : s.2.2.isNone = false → s.2.2.isSome = true := fun q => by
    cases e : s.2.2 with
    | none => rw [e] at q; cases q
    | some a => rfl
  have c4 : s.2.2.isNone = false → mis_state_c4 (s, ()) = true := fun q => by
    obtain ⟨a, ea⟩ := Option.isSome_iff_exists.mp (anc q)
    have := h.anc a ea
    show mis_integer (s.2.2.getD 0, 0, s.1 - 1, ()) = true
    rw [ea, h.num]
    exact isint.mpr ⟨this.1, by show a ≤ n - 1; omega⟩
  refine ⟨⟨fun _ _ => trivial, ?_, trivial⟩, fun q => ?_, trivial⟩
  · show if ((!true) || ((!(dfInt).eq (3 : Int) (3 : Int)) || (!(mis_state_c1 (s, ()))))) = true then _ else _
    rw [if_neg (by rw [e1]; exact Bool.false_ne_true)]
    refine ⟨⟨chk_items (by rw [show (mis_state_t2 (s, ())).1 = s.1 from rfl, h.num]; exact h.pos) (by rw [show (mis_state_t2 (s, ())).1 = s.1 from rfl, h.num]; exact n2), r1, trivial⟩, fun _ q => anc q, fun _ _ => trivial, trivial⟩
  · have : mcheck_state_c1 (s, ()) = true := by
      show mis_state (s, ()) = true
      unfold mis_state
      rw [hide_eq, if_neg (by rw [e1]; exact Bool.false_ne_true), c3]
      show (true && (s.2.2.isNone || mis_state_c4 (s, ()))) = true
      cases e : s.2.2.isNone with
      | true => rfl
      | false => rw [c4 e]; rfl
    rw [this] at q
    exact absurd q (by decide)
theorem isclick {z : Int} {c : Str × Int} (h : 0 ≤ c.2 ∧ c.2 < z ∧ (c.1 = ("click" : Str) ∨ c.1 = ("range" : Str))) : mis_click_p (z, c, ()) ∧ mis_click (z, c, ()) = true := by
  have e1 : ((!true) || ((!(dfInt).eq (2 : Int) (2 : Int)) || (!decide (c.1 = ((("click" : Str), ("range" : Str))).1 ∨ c.1 = ((("click" : Str), ("range" : Str))).2)))) = false := by
    rw [df_t.mpr rfl, decide_eq_true (show c.1 = ((("click" : Str), ("range" : Str))).1 ∨ c.1 = ((("click" : Str), ("range" : Str))).2 from h.2.2)]
    rfl
  refine ⟨⟨?_, trivial⟩, ?_⟩
  · show if ((!true) || ((!(dfInt).eq (2 : Int) (2 : Int)) || (!decide (c.1 = ((("click" : Str), ("range" : Str))).1 ∨ c.1 = ((("click" : Str), ("range" : Str))).2)))) = true then _ else _
    rw [e1]
    exact ⟨trivial, trivial⟩
  · unfold mis_click
    rw [hide_eq]
    show (if ((!true) || ((!(dfInt).eq (2 : Int) (2 : Int)) || (!decide (c.1 = ((("click" : Str), ("range" : Str))).1 ∨ c.1 = ((("click" : Str), ("range" : Str))).2)))) = true then false else (mis_click_c1 (z, c, ()))) = true
    rw [e1]
    exact isint.mpr ⟨h.1, by show c.2 ≤ z - 1; have := h.2.1; omega⟩
theorem mem_enum {α : Type} {xs : List α} {x : Int × α} (h : x ∈ enumL xs) : x.2 ∈ xs := by
  obtain ⟨k, hk⟩ := List.mem_iff_getElem?.mp h
  obtain ⟨y, h1, h2⟩ := enumL_get _ _ _ hk
  rw [h2]
  exact List.mem_of_getElem? h1
theorem chk_clicks {z : Int} {A : Option Int} {l : List (Str × Int)} (h : Ckl z A l) : mcheck_clicks_p (z, l, ()) := by
  refine ⟨fun h => absurd h (by decide), ?_, trivial⟩
  refine (loop_inv (fun _ _ => True) (mcheck_clicks_L1x (z, l, ())) 0 (mcheck_clicks_L1i (z, l, ())) trivial fun j m x _ _ hx _ => ⟨?_, trivial⟩).1
  obtain ⟨p1, p2⟩ := isclick (h.1 x.2 (mem_enum hx))
  refine ⟨p1, ?_, trivial⟩
  show (!(mis_click (z, x.2, ()))) = true → False
  rw [p2]
  exact fun h => absurd h (by decide)
theorem begin_ok {z : Int} {A : Option Int} {l : List (Str × Int)} (h : Ckl z A l) : mcheck_can_begin_p (l, A, ()) := by
  refine ⟨fun q => ?_, fun q => ?_, trivial⟩
  · cases l with
    | nil => exact absurd (show (!((dfList (dfT2 dfStr dfInt))).eq [] ([] : List (Str × Int))) = true from q) (by rw [df_t.mpr rfl]; decide)
    | cons c r => exact ⟨by simp; omega, by simp⟩
  · have q' : ((!((dfList (dfT2 dfStr dfInt))).eq l ([] : List (Str × Int))) && (((dfStr).eq (ixI (Str.empty, (0 : Int)) l (0 : Int)).1 ("range" : Str)) && A.isNone)) = true := q
    rw [Bool.and_eq_true, Bool.and_eq_true, df_t] at q'
    cases l with
    | nil => have := q'.1; rw [df_t.mpr rfl] at this; exact absurd this (by decide)
    | cons c r =>
      have e : c.1 = ("range" : Str) := q'.2.1
      rcases h.2 c r rfl with k | k
      · rw [k] at e
        exact absurd e (by decide)
      · have := q'.2.2
        cases hA : A with
        | none => rw [hA] at k; cases k
        | some a => rw [hA] at this; cases this
/-- states_along -/
theorem along_ok {n : Int} {s : Sx.StT} {cs : List (Str × Int)} (h : Sx.Vs n s) (n2 : n ≤ 1000000000000000000000000000000) (hc : Ckl n s.2.2 cs) (hl : s.2.1.length + cs.length ≤ 1000) : mstates_along_p (s, cs, ()) ∧ mstates_along (s, cs, ()) = Sx.runS s cs := by
  obtain ⟨q1, q2⟩ := play_ok h (cans hc) hl
  refine ⟨⟨state_ok h n2, ?_, begin_ok hc, q1, trivial⟩, ?_⟩
  · show mcheck_clicks_p (s.1, cs, ())
    rw [h.num]
    exact chk_clicks hc
  · unfold mstates_along
    rw [hide_eq]
    exact q2
end Lw

/-! k19: click lists by pieces, idle clicks -/
namespace Lw
open PySem PySem.Spec PyProof PyProof.Rows L2 Dx
theorem cells_ok {ns : List Int} (hl : ns.length ≤ 63) : m_law_cells_p (ns, 8, ()) ∧ (m_law_cells (ns, 8, ())).length ≤ 100 := by
  have h1 := cutL_len ns none (some 8)
  have h2 : ∀ q : Bool, (repL ([(0 : Int)] : List Int) (b2I q)).length ≤ 1 := fun q => by rw [repL_len]; cases q <;> simp [b2I]
  have h3 : ∀ q : Bool, RepOk ([(0 : Int)] : List Int) (b2I q) := fun q => by cases q <;> exact ⟨by decide, by decide, by decide⟩
  have big := line_big
  have h2' := h2 ((dfList dfInt).eq ns ([] : List Int))
  refine ⟨⟨h3 _, ?_, trivial⟩, ?_⟩
  · show (cutL ns none (some 8)).length + (repL ([(0 : Int)] : List Int) (b2I ((dfList dfInt).eq ns ([] : List Int)))).length ≤ sizeLine
    omega
  · unfold m_law_cells
    rw [hide_eq]
    show (cutL ns none (some 8) ++ repL ([(0 : Int)] : List Int) (b2I ((dfList dfInt).eq ns ([] : List Int)))).length ≤ 100
    rw [List.length_append]
    omega
theorem st_ok {n : Nat} {b sc : List Int} (g : Good n b) (hn : n ≤ 1000) : m_law_start_p (b, sc, 100, ()) ∧ Good (n + 700) (m_law_start (b, sc, 100, ())).1 ∧ Sx.Vs (m_law_start (b, sc, 100, ())).2.1 (m_law_start (b, sc, 100, ())).2 ∧ (m_law_start (b, sc, 100, ())).2.1 ≤ 1000000000000000000000000000000 ∧ (m_law_start (b, sc, 100, ())).2.2.1.length ≤ 100 := by
  obtain ⟨s, es⟩ : ∃ s : m_law_start_S, s = (b, sc, 100, ()) := ⟨_, rfl⟩
  have s1 : s.1 = b := by rw [es]
  have s2 : s.2.1 = sc := by rw [es]
  have s3 : s.2.2.1 = 100 := by rw [es]
  obtain ⟨p1, g1, z1, z2⟩ := size_ok (sc := sc) g (by omega)
  have e1 : m_law_size (b, sc, ()) = m_law_start_c1 s := by unfold m_law_start_c1; rw [s1, s2]
  rw [e1] at g1 z1 z2
  have hm : (0 : Int) ≤ (if (dfList dfInt).eq sc ([] : List Int) = true then (2 : Int) else 100) ∧ (if (dfList dfInt).eq sc ([] : List Int) = true then (2 : Int) else 100) ≤ 100 := by split <;> decide
  obtain ⟨p2, g2, k2, l2⟩ := start_ok g1 (by omega) z1 z2 hm.1 hm.2
  have e2 : m_law_marked ((m_law_start_c1 s).1, (m_law_start_c1 s).2, (if (dfList dfInt).eq sc ([] : List Int) = true then (2 : Int) else 100), ()) = m_law_start_c2 s := by unfold m_law_start_c2; rw [s2, s3]
  rw [e2] at g2 k2 l2
  obtain ⟨p3, g3, a3, b3⟩ := draw (c := 2) g2 (by omega) (by decide) (by decide)
  have e3 : m_law_draw ((m_law_start_c2 s).1, 2, ()) = m_law_start_c3 s := rfl
  rw [e3] at g3 a3 b3
  obtain ⟨p4, g4, a4, b4⟩ := draw (c := (m_law_start_c1 s).2) g3 (by omega) (by omega) (small_log (by omega) z2)
  have e4 : m_law_draw ((m_law_start_c3 s).1, (m_law_start_c1 s).2, ()) = m_law_start_c4 s := rfl
  rw [e4] at g4 a4 b4
  rw [← es]
  refine ⟨⟨?_, ?_, p3, fun _ => p4, trivial⟩, ?_⟩
  · show m_law_size_p (s.1, s.2.1, ())
    rw [s1, s2]; exact p1
  · show m_law_marked_p ((m_law_start_c1 s).1, (m_law_start_c1 s).2, (if (dfList dfInt).eq s.2.1 ([] : List Int) = true then (2 : Int) else s.2.2.1), ())
    rw [s2, s3]; exact p2
  · unfold m_law_start
    rw [hide_eq]
    refine ⟨?_, ⟨rfl, z1, k2, fun a ea => ?_⟩, z2, l2⟩
    · show Good _ (if (dfInt).eq (m_law_start_c3 s).2 (1 : Int) = true then (m_law_start_c4 s).1 else (m_law_start_c3 s).1)
      split
      · exact g4.mono (by omega)
      · exact g3.mono (by omega)
    · have ea' : (if (dfInt).eq (m_law_start_c3 s).2 (1 : Int) = true then (some (m_law_start_c4 s).2) else none) = some a := ea
      split at ea'
      · cases ea'
        exact ⟨a4, b4⟩
      · cases ea'
theorem while_inv {M : Type} {ct : M → Prop} {c : M → Bool} {cb : M → Prop} {step : M → M} (I : M → Prop) (μ : M → Nat) : ∀ (n : Nat) (m : M), I m → μ m < n → (∀ m, I m → ct m ∧ (c m = true → cb m ∧ I (step m) ∧ μ (step m) < μ m)) → whileC ct c cb step n m ∧ I (whileF c step n m) ∧ c (whileF c step n m) = false
  | 0, m, _, h, _ => absurd h (Nat.not_lt_zero _)
  | n + 1, m, hi, hm, hs => by
    obtain ⟨h1, h2⟩ := hs m hi
    by_cases hc : c m = true
    · obtain ⟨h3, h4, h5⟩ := h2 hc
      obtain ⟨k1, k2, k3⟩ := while_inv I μ n (step m) h4 (by omega) hs
      have e : whileF c step (n + 1) m = whileF c step n (step m) := by
        show (if c m = true then _ else _) = _
        rw [if_pos hc]
      rw [e]
      exact ⟨⟨h1, fun _ => ⟨h3, k1⟩⟩, k2, k3⟩
    · have e : whileF c step (n + 1) m = m := by
        show (if c m = true then _ else _) = _
        rw [if_neg hc]
      rw [e]
      exact ⟨⟨h1, fun z => absurd z hc⟩, hi, Bool.eq_false_iff.mpr hc⟩
theorem run_len : ∀ (cs : List (Str × Int)) (s : Sx.StT), ∀ t ∈ Sx.runS s cs, t.2.1.length ≤ s.2.1.length + cs.length
  | [], s, t, ht => by rw [List.mem_singleton.mp ht]; exact Nat.le_add_right _ _
  | c :: cs, s, t, ht => by
    rcases List.mem_cons.mp ht with e | ht
    · rw [e]; exact Nat.le_add_right _ _
    · have h1 := run_len cs (Sx.nextS s c) t ht
      have h2 := next_len s c
      rw [List.length_cons]
      omega
theorem after_ok {n : Int} {s : Sx.StT} {cs : List (Str × Int)} {E0 : List Sx.StT} {r : Sx.StT} (h : Sx.Vs n s) (n2 : n ≤ 1000000000000000000000000000000) (hc : Ckl n s.2.2 cs) (hl : s.2.1.length + cs.length ≤ 1000) (e : Sx.runS s cs = E0 ++ [r]) : mstate_after_p (s, cs, ()) ∧ mstate_after (s, cs, ()) = r := by
  obtain ⟨q1, q2⟩ := along_ok h n2 hc hl
  have e1 : mstate_after_c1 (s, cs, ()) = E0 ++ [r] := q2.trans e
  refine ⟨⟨q1, ?_, trivial⟩, ?_⟩
  · show IxOk (mstate_after_c1 (s, cs, ())) (-1)
    rw [e1]
    exact ixOk_last (by simp)
  · unfold mstate_after
    rw [hide_eq, e1, ix_last]
theorem cut_take {α : Type} (xs : List α) (i : Nat) : cutL xs none (some (i : Int)) = xs.take i := by
  unfold cutL
  rw [show HT.sIx xs.length xs.length (some (i : Int)) = min i xs.length from HT.sIx_nat _ _ _, HT.sIx_none, List.drop_zero, Nat.sub_zero]
  rcases Nat.le_total i xs.length with z | z
  · rw [Nat.min_eq_left z]
  · rw [Nat.min_eq_right z, List.take_of_length_le (Nat.le_refl _), List.take_of_length_le z]
theorem cut_kc {α : Type} (xs : List α) (k c : Nat) : cutL xs (some (k : Int)) (some ((k + c : Nat) : Int)) = (xs.drop k).take c := by
  unfold cutL
  rw [HT.sIx_nat, HT.sIx_nat]
  by_cases h : k ≤ xs.length
  · rw [Nat.min_eq_left h]
    by_cases h2 : k + c ≤ xs.length
    · rw [Nat.min_eq_left h2, Nat.add_sub_cancel_left]
    · rw [Nat.min_eq_right (by omega), List.take_of_length_le (by rw [List.length_drop]; exact Nat.le_refl _), List.take_of_length_le (by rw [List.length_drop]; omega)]
  · rw [Nat.min_eq_right (by omega), Nat.min_eq_right (by omega), List.drop_eq_nil_of_le (Nat.le_refl _), List.drop_eq_nil_of_le (by omega), List.take_nil, List.take_nil]
/-- the state behind a click list -/
def finS (s : Sx.StT) (cs : List (Str × Int)) : Sx.StT := cs.foldl Sx.nextS s
theorem fin_app (s : Sx.StT) (a b : List (Str × Int)) : finS s (a ++ b) = finS (finS s a) b := List.foldl_append
theorem run_fin : ∀ (cs : List (Str × Int)) (s : Sx.StT), ∃ E0, Sx.runS s cs = E0 ++ [finS s cs]
  | [], s => ⟨[], rfl⟩
  | c :: cs, s => by
    obtain ⟨E0, e⟩ := run_fin cs (Sx.nextS s c)
    exact ⟨s :: E0, by show s :: Sx.runS (Sx.nextS s c) cs = _; rw [e]; rfl⟩
theorem run_app : ∀ (a b : List (Str × Int)) (s : Sx.StT), Sx.runS s (a ++ b) = Sx.runS s a ++ (Sx.runS (finS s a) b).drop 1
  | [], b, s => by cases b <;> rfl
  | c :: a, b, s => by
    show s :: Sx.runS (Sx.nextS s c) (a ++ b) = s :: (Sx.runS (Sx.nextS s c) a ++ (Sx.runS (finS (Sx.nextS s c) a) b).drop 1)
    rw [run_app a b]
theorem fin_mem (cs : List (Str × Int)) (s : Sx.StT) : finS s cs ∈ Sx.runS s cs := by
  obtain ⟨E0, e⟩ := run_fin cs s
  rw [e]; exact List.mem_append_right _ (List.mem_singleton_self _)
theorem fin_some : ∀ {cs : List (Str × Int)} {s : Sx.StT} {n : Int}, Sx.Cans n s cs → (cs ≠ [] ∨ s.2.2.isSome = true) → (finS s cs).2.2.isSome = true
  | [], s, n, _, h => by
    rcases h with h | h
    · exact absurd rfl h
    · exact h
  | c :: cs, s, n, hc, _ => fin_some (cs := cs) (s := Sx.nextS s c) (n := n) hc.2 (.inr (Sx.next_some hc.1))
theorem aft {n : Int} {s : Sx.StT} {cs : List (Str × Int)} (h : Sx.Vs n s) (n2 : n ≤ 1000000000000000000000000000000) (hc : Ckl n s.2.2 cs) (hl : s.2.1.length + cs.length ≤ 1000) : mstate_after_p (s, cs, ()) ∧ mstate_after (s, cs, ()) = finS s cs := by
  obtain ⟨E0, e⟩ := run_fin cs s
  exact after_ok h n2 hc hl e
theorem fin_vs {n : Int} {s : Sx.StT} {cs : List (Str × Int)} (h : Sx.Vs n s) (hc : Ckl n s.2.2 cs) : Sx.Vs n (finS s cs) := Sx.run_valid h (cans hc) _ (fin_mem cs s)
theorem fin_len (cs : List (Str × Int)) (s : Sx.StT) : (finS s cs).2.1.length ≤ s.2.1.length + cs.length := run_len cs s _ (fin_mem cs s)
theorem ckl_take {z : Int} {A : Option Int} {l : List (Str × Int)} (h : Ckl z A l) (k : Nat) : Ckl z A (l.take k) := by
  refine ⟨fun c hc => h.1 c (List.mem_of_mem_take hc), fun c r e => ?_⟩
  cases l with
  | nil => rw [List.take_nil] at e; cases e
  | cons c' r' =>
    cases k with
    | zero => cases e
    | succ k =>
      rw [List.take_succ_cons] at e
      injection e with e1 e2
      rw [← e1]
      exact h.2 c' r' rfl
/-- the part behind k clicks can be done -/
theorem ckl_drop {z : Int} {s : Sx.StT} {l : List (Str × Int)} (h : Ckl z s.2.2 l) (k : Nat) : Ckl z (finS s (l.take k)).2.2 (l.drop k) := by
  cases k with
  | zero => exact h
  | succ k =>
    refine ⟨fun c hc => h.1 c (List.mem_of_mem_drop hc), fun c r e => .inr ?_⟩
    refine fin_some (n := z) (cans (ckl_take h _)) (.inl fun w => ?_)
    cases l with
    | nil => simp at e
    | cons c' r' => rw [List.take_succ_cons] at w; cases w
theorem ckl_one {z v : Int} {A : Option Int} {k : Str} (v0 : 0 ≤ v) (v1 : v < z) (hk : k = ("click" : Str) ∨ (k = ("range" : Str) ∧ A.isSome = true)) : Ckl z A [(k, v)] := by
  refine ⟨fun c hc => ?_, fun c r e => ?_⟩
  · rw [List.mem_singleton.mp hc]
    exact ⟨v0, v1, hk.imp id fun h => h.1⟩
  · injection e with e1 _
    rw [← e1]
    exact hk.imp id fun h => h.2
theorem ckl_two {z v : Int} {A : Option Int} (v0 : 0 ≤ v) (v1 : v < z) : Ckl z A (repL [(("click" : Str), v)] 2) := by
  have e : repL [(("click" : Str), v)] 2 = [(("click" : Str), v), (("click" : Str), v)] := rfl
  rw [e]
  refine ⟨fun c hc => ?_, fun c r e => ?_⟩
  · have : c = (("click" : Str), v) := by simpa using hc
    rw [this]
    exact ⟨v0, v1, .inl rfl⟩
  · injection e with e1 _
    rw [← e1]
    exact .inl rfl
/-- a click twice -/
theorem fin_two {n v : Int} {s : Sx.StT} (h : Sx.Vs n s) (v0 : 0 ≤ v) (v1 : v < n) : finS s (repL [(("click" : Str), v)] 2) = (s.1, s.2.1, some v) := by
  have e : repL [(("click" : Str), v)] 2 = [(("click" : Str), v), (("click" : Str), v)] := rfl
  rw [e]
  show Sx.nextS (Sx.nextS s (("click" : Str), v)) (("click" : Str), v) = _
  have n1 : ∀ t : Sx.StT, Sx.nextS t (("click" : Str), v) = (t.1, Sx.clickS t.2.1 v, some v) := fun t => if_pos rfl
  rw [n1, n1]
  show (s.1, Sx.clickS (Sx.clickS s.2.1 v) v, some v) = _
  obtain ⟨k1, k2⟩ := Sx.click_ok h.sel v0 v1
  obtain ⟨k3, k4⟩ := Sx.click_ok k1 v0 v1
  rw [Sx.sel_uniq k3 h.sel fun p _ _ => by rw [k4, k2]; cases Sx.inR s.2.1 p <;> cases decide (p = v) <;> rfl]
theorem next_range {t : Sx.StT} {v a : Int} (ha : t.2.2 = some a) : Sx.nextS t (("range" : Str), v) = (t.1, Sx.rangeS t.2.1 (min a v) (max a v) (Sx.inR t.2.1 a), t.2.2) := by
  unfold Sx.nextS
  rw [if_neg (show ¬ ("range" : Str) = ("click" : Str) by decide), ha]
  rfl
/-- a range click twice -/
theorem range_two {n v a : Int} {s : Sx.StT} (h : Sx.Vs n s) (ha : s.2.2 = some a) (v0 : 0 ≤ v) (v1 : v < n) : Sx.nextS (Sx.nextS s (("range" : Str), v)) (("range" : Str), v) = Sx.nextS s (("range" : Str), v) := by
  have e1 := next_range (v := v) ha
  obtain ⟨a0, a1⟩ := h.anc a ha
  obtain ⟨k1, k2⟩ := Sx.range_ok (m := Sx.inR s.2.1 a) h.sel (show 0 ≤ min a v by omega) (show min a v ≤ max a v by omega) (show max a v < n by omega)
  rw [e1]
  rw [next_range (t := (s.1, Sx.rangeS s.2.1 (min a v) (max a v) (Sx.inR s.2.1 a), s.2.2)) (a := a) ha]
  show (s.1, Sx.rangeS (Sx.rangeS s.2.1 (min a v) (max a v) (Sx.inR s.2.1 a)) (min a v) (max a v) (Sx.inR (Sx.rangeS s.2.1 (min a v) (max a v) (Sx.inR s.2.1 a)) a), s.2.2) = _
  have em : Sx.inR (Sx.rangeS s.2.1 (min a v) (max a v) (Sx.inR s.2.1 a)) a = Sx.inR s.2.1 a := by rw [k2, if_pos (by omega)]
  rw [em]
  obtain ⟨k3, k4⟩ := Sx.range_ok (m := Sx.inR s.2.1 a) k1 (show 0 ≤ min a v by omega) (show min a v ≤ max a v by omega) (show max a v < n by omega)
  rw [Sx.sel_uniq k3 k1 fun p _ _ => by rw [k4, k2]; split <;> rfl]
/-- a range click on the anchor -/
theorem range_anc {n a : Int} {s : Sx.StT} (h : Sx.Vs n s) (ha : s.2.2 = some a) : Sx.nextS s (("range" : Str), a) = s := by
  obtain ⟨a0, a1⟩ := h.anc a ha
  rw [next_range ha]
  obtain ⟨k1, k2⟩ := Sx.range_ok (m := Sx.inR s.2.1 a) h.sel (show 0 ≤ min a a by omega) (show min a a ≤ max a a by omega) (show max a a < n by omega)
  have : Sx.rangeS s.2.1 (min a a) (max a a) (Sx.inR s.2.1 a) = s.2.1 := Sx.sel_uniq k1 h.sel fun p _ _ => by
    rw [k2]
    split
    · have : p = a := by omega
      rw [this]
    · rfl
  rw [this]
end Lw

/-! the law of k19 -/
namespace Lw
open PySem PySem.Spec PyProof PyProof.Rows L2 Dx
theorem pieces_right {n : Nat} {b : List Int} {z : Int} {s0 : Sx.StT} {cs : List (Str × Int)} (g : Good n b) (hn : n ≤ 900000) (h : Sx.Vs z s0) (z2 : z ≤ 1000000000000000000000000000000) (hc : Ckl z s0.2.2 cs) (hl : s0.2.1.length ≤ 100) (hcl : cs.length ≤ 200) :
    m_law_pieces_right_p (b, s0, cs, ()) ∧ Good (n + 1000) (m_law_pieces_right (b, s0, cs, ())).1 ∧ (m_law_pieces_right (b, s0, cs, ())).2 = true := by
  have big := line_big
  obtain ⟨s, es⟩ : ∃ s : m_law_pieces_right_S, s = (b, s0, cs, ()) := ⟨_, rfl⟩
  have s1 : s.1 = b := by rw [es]
  have s2 : s.2.1 = s0 := by rw [es]
  have s3 : s.2.2.1 = cs := by rw [es]
  rw [← es]
  have rl : ∀ k, (Sx.runS s0 (cs.take k)).length ≤ 201 := fun k => by
    rw [Sx.run_length]
    have := List.length_take_le k cs
    have : (cs.take k).length ≤ cs.length := by rw [List.length_take]; omega
    omega
  have main := while_inv (ct := fun m => m_law_pieces_right_L3t ((s, m), ())) (c := fun m => m_law_pieces_right_L3h ((s, m), ())) (cb := fun m => m_law_pieces_right_L3c ((s, m), ())) (step := fun m => m_law_pieces_right_L3s ((s, m), ()))
    (fun m => ∃ k : Nat, m.2.2.2 = (k : Int) ∧ k ≤ 230 ∧ Good (n + k) m.1 ∧ m.2.1 = finS s0 (cs.take k) ∧ m.2.2.1 = Sx.runS s0 (cs.take k)) (fun m => cs.length - m.2.2.2.toNat) turns (m_law_pieces_right_L3i s)
    ⟨0, rfl, by omega, by rw [← s1] at g; exact g, by show s.2.1 = _; rw [s2]; rfl, by show m_law_pieces_right_v_along_1 s = _; unfold m_law_pieces_right_v_along_1; rw [s2]; rfl⟩ (by show cs.length - _ < 1000000; omega) fun m ⟨k, k1, k2, k3, k4, k5⟩ => by
    obtain ⟨t, et⟩ : ∃ t : m_law_pieces_right_L3T, t = ((s, m), ()) := ⟨_, rfl⟩
    have t1 : t.1.1 = s := by rw [et]
    have t2 : t.1.2 = m := by rw [et]
    show m_law_pieces_right_L3t ((s, m), ()) ∧ (m_law_pieces_right_L3h ((s, m), ()) = true → m_law_pieces_right_L3c ((s, m), ()) ∧ _ ∧ _)
    rw [← et]
    refine ⟨trivial, fun hh => ?_⟩
    have hh : decide (t.1.2.2.2.2 < ((t.1.1.2.2.1).length : Int)) = true := hh
    rw [t1, t2, s3, k1, decide_eq_true_eq] at hh
    have kl : k < cs.length := by omega
    obtain ⟨p4, g4, a4, b4⟩ := draw (c := 20) k3 (by omega) (by decide) (by decide)
    have f4 : m_law_draw (m.1, 20, ()) = m_law_pieces_right_c4 t := by unfold m_law_pieces_right_c4; rw [t2]
    rw [f4] at g4 a4 b4
    obtain ⟨c, ec⟩ : ∃ c : Nat, m_law_pieces_right_v_size_here_5 t = ((c + 1 : Nat) : Int) := ⟨(m_law_pieces_right_c4 t).2.toNat, by unfold m_law_pieces_right_v_size_here_5; omega⟩
    have cb : c + 1 ≤ 20 := by
      have : m_law_pieces_right_v_size_here_5 t ≤ 20 := by unfold m_law_pieces_right_v_size_here_5; omega
      omega
    have ecut : cutL t.1.1.2.2.1 (some t.1.2.2.2.2) (some (t.1.2.2.2.2 + (m_law_pieces_right_v_size_here_5 t))) = (cs.drop k).take (c + 1) := by
      rw [t1, t2, s3, k1, ec, ← Int.natCast_add]
      exact cut_kc cs k (c + 1)
    have tk : cs.take (k + (c + 1)) = cs.take k ++ (cs.drop k).take (c + 1) := by rw [List.take_add]
    have vh : Sx.Vs z (finS s0 (cs.take k)) := fin_vs h (ckl_take hc k)
    have ch : Ckl z (finS s0 (cs.take k)).2.2 ((cs.drop k).take (c + 1)) := ckl_take (ckl_drop hc k) _
    have lh : (finS s0 (cs.take k)).2.1.length + ((cs.drop k).take (c + 1)).length ≤ 1000 := by
      have h1 := fin_len (cs.take k) s0
      have h2 : (cs.take k).length ≤ cs.length := by rw [List.length_take]; omega
      have h3 : ((cs.drop k).take (c + 1)).length ≤ cs.length := by rw [List.length_take, List.length_drop]; omega
      omega
    obtain ⟨p6, q6⟩ := along_ok vh z2 ch lh
    obtain ⟨p8, q8⟩ := aft vh z2 ch lh
    have c6 : m_law_pieces_right_c6 t = Sx.runS (finS s0 (cs.take k)) ((cs.drop k).take (c + 1)) := by
      unfold m_law_pieces_right_c6
      rw [ecut, t2, k4]; exact q6
    have c8 : m_law_pieces_right_c8 t = finS (finS s0 (cs.take k)) ((cs.drop k).take (c + 1)) := by
      unfold m_law_pieces_right_c8
      rw [ecut, t2, k4]; exact q8
    have c7 : m_law_pieces_right_v_along_7 t = Sx.runS s0 (cs.take (k + (c + 1))) := by
      unfold m_law_pieces_right_v_along_7
      rw [c6, t2, k5, cut_one, tk, run_app]
    have c9 : m_law_pieces_right_v_at_9 t = ((k + (c + 1) : Nat) : Int) := by
      unfold m_law_pieces_right_v_at_9
      rw [t2, k1, ec]
      omega
    refine ⟨⟨?_, ?_, ?_, ?_, trivial⟩, ⟨k + (c + 1), c9, by omega, g4.mono (by omega), by rw [tk, fin_app]; exact c8, c7⟩, ?_⟩
    · show m_law_draw_p (t.1.2.1, 20, ())
      rw [t2]; exact p4
    · show mstates_along_p (t.1.2.2.1, cutL t.1.1.2.2.1 (some t.1.2.2.2.2) (some (t.1.2.2.2.2 + (m_law_pieces_right_v_size_here_5 t))), ())
      rw [ecut, t2, k4]; exact p6
    · show (t.1.2.2.2.1).length + (cutL (m_law_pieces_right_c6 t) (some (1 : Int)) none).length ≤ sizeLine
      have h1 := cutL_len (m_law_pieces_right_c6 t) (some (1 : Int)) none
      have h2 : (m_law_pieces_right_c6 t).length ≤ 300 := by
        rw [c6, Sx.run_length, List.length_take]
        omega
      have h3 := rl k
      rw [t2, k5]
      omega
    · show mstate_after_p (t.1.2.2.1, cutL t.1.1.2.2.1 (some t.1.2.2.2.2) (some (t.1.2.2.2.2 + (m_law_pieces_right_v_size_here_5 t))), ())
      rw [ecut, t2, k4]; exact p8
    · show cs.length - (m_law_pieces_right_v_at_9 t).toNat < cs.length - m.2.2.2.toNat
      rw [c9, k1]
      omega
  obtain ⟨wc, ⟨k, k1, k2, k3, k4, k5⟩, wf⟩ := main
  have eL : m_law_pieces_right_L3 s = whileF (fun m => m_law_pieces_right_L3h ((s, m), ())) (fun m => m_law_pieces_right_L3s ((s, m), ())) turns (m_law_pieces_right_L3i s) := by unfold m_law_pieces_right_L3; rw [LoopW_eq]
  rw [← eL] at k1 k3 k4 k5 wf
  have wf : decide ((m_law_pieces_right_L3 s).2.2.2 < ((s.2.2.1).length : Int)) = false := wf
  rw [s3, k1, decide_eq_false_iff_not] at wf
  have tk : cs.take k = cs := List.take_of_length_le (by omega)
  rw [tk] at k4 k5
  obtain ⟨p10, q10⟩ := along_ok h z2 hc (by omega)
  obtain ⟨p11, q11⟩ := aft h z2 hc (by omega)
  have c10 : m_law_pieces_right_c10 s = Sx.runS s0 cs := by unfold m_law_pieces_right_c10; rw [s2, s3]; exact q10
  have c11 : m_law_pieces_right_c11 s = finS s0 cs := by unfold m_law_pieces_right_c11; rw [s2, s3]; exact q11
  refine ⟨⟨wc, ?_, fun _ => ?_, trivial⟩, ?_, ?_⟩
  · show mstates_along_p (s.2.1, s.2.2.1, ())
    rw [s2, s3]; exact p10
  · show mstate_after_p (s.2.1, s.2.2.1, ())
    rw [s2, s3]; exact p11
  · unfold m_law_pieces_right
    rw [hide_eq]
    exact k3.mono (by omega)
  · unfold m_law_pieces_right
    rw [hide_eq, k4, k5, c10, c11, df_t.mpr rfl, df_t.mpr rfl]
    rfl
theorem idle_right {n : Nat} {b : List Int} {z : Int} {s0 : Sx.StT} {cs : List (Str × Int)} (g : Good n b) (hn : n ≤ 900000) (h : Sx.Vs z s0) (z2 : z ≤ 1000000000000000000000000000000) (hc : Ckl z s0.2.2 cs) (hl : s0.2.1.length ≤ 100) (hcl : cs.length ≤ 200) :
    m_law_idle_right_p (b, s0, cs, ()) ∧ Good (n + 10) (m_law_idle_right (b, s0, cs, ())).1 ∧ (m_law_idle_right (b, s0, cs, ())).2 = true := by
  have big := line_big
  obtain ⟨s, es⟩ : ∃ s : m_law_idle_right_S, s = (b, s0, cs, ()) := ⟨_, rfl⟩
  have s1 : s.1 = b := by rw [es]
  have s2 : s.2.1 = s0 := by rw [es]
  have s3 : s.2.2.1 = cs := by rw [es]
  rw [← es]
  have z1 := h.pos
  obtain ⟨p1, g1, a1, b1⟩ := draw (c := (cs.length : Int) + 1) g (by omega) (by omega) (small_log (by omega) (by omega))
  have f1 : m_law_draw (b, (cs.length : Int) + 1, ()) = m_law_idle_right_c1 s := by unfold m_law_idle_right_c1; rw [s1, s3]
  rw [f1] at g1 a1 b1
  obtain ⟨k, ek⟩ : ∃ k : Nat, (m_law_idle_right_c1 s).2 = (k : Int) := ⟨(m_law_idle_right_c1 s).2.toNat, by omega⟩
  have ecut : cutL s.2.2.1 none (some (m_law_idle_right_c1 s).2) = cs.take k := by rw [s3, ek]; exact cut_take cs k
  have ltk : (cs.take k).length ≤ cs.length := by rw [List.length_take]; omega
  have ck := ckl_take hc k
  obtain ⟨p2, q2⟩ := aft h z2 ck (by omega)
  obtain ⟨M, eM⟩ : ∃ M, finS s0 (cs.take k) = M := ⟨_, rfl⟩
  rw [eM] at q2
  have vM : Sx.Vs z M := by rw [← eM]; exact fin_vs h ck
  have lM : M.2.1.length ≤ 300 := by
    have := fin_len (cs.take k) s0
    rw [eM] at this
    omega
  have c2 : m_law_idle_right_c2 s = M := by unfold m_law_idle_right_c2; rw [ecut, s2]; exact q2
  obtain ⟨p3, g3, a3, b3⟩ := item_ok (near := 0) g1 (by omega) z1 z2
  have f3 : m_law_item ((m_law_idle_right_c1 s).1, z, 0, ()) = m_law_idle_right_c3 s := by unfold m_law_idle_right_c3; rw [s2, h.num]
  rw [f3] at g3 a3 b3
  obtain ⟨v, ev⟩ : ∃ v, (m_law_idle_right_c3 s).2 = v := ⟨_, rfl⟩
  rw [ev] at a3 b3
  have len2 : ∀ v : Int, (repL [(("click" : Str), v)] 2).length = 2 := fun _ => rfl
  obtain ⟨p4, q4⟩ := aft vM z2 (ckl_two (A := M.2.2) a3 b3) (by rw [len2]; omega)
  rw [fin_two vM a3 b3] at q4
  have c4 : m_law_idle_right_c4 s = (M.1, M.2.1, some v) := by unfold m_law_idle_right_c4; rw [c2, ev]; exact q4
  have v4 : Sx.Vs z (M.1, M.2.1, some v) := ⟨vM.num, vM.pos, vM.sel, fun a e => by cases e; exact ⟨a3, b3⟩⟩
  have e4 : (!((dfT3 dfInt (dfList (dfT2 dfInt dfInt)) (dfOpt dfInt))).eq (m_law_idle_right_c4 s) ((m_law_idle_right_c2 s).1, (m_law_idle_right_c2 s).2.1, (some (m_law_idle_right_c3 s).2))) = false := by
    rw [c2, c4, ev, df_t.mpr rfl]; rfl
  have anc : ∀ a, M.2.2 = some a → 0 ≤ a ∧ a < z := vM.anc
  -- the clicks that change nothing
  have rng : M.2.2.isSome = true → (mstate_after_p (M, [(("range" : Str), v)], ()) ∧ m_law_idle_right_c5 s = Sx.nextS M (("range" : Str), v)) ∧ (mstate_after_p (Sx.nextS M (("range" : Str), v), [(("range" : Str), v)], ()) ∧ m_law_idle_right_c6 s = m_law_idle_right_c5 s) ∧ (mstate_after_p (M, [(("range" : Str), M.2.2.getD 0)], ()) ∧ m_law_idle_right_c7 s = M) := fun w => by
    obtain ⟨a, ea⟩ := Option.isSome_iff_exists.mp w
    obtain ⟨a0, a1⟩ := anc a ea
    have k5 : Ckl z M.2.2 [(("range" : Str), v)] := ckl_one a3 b3 (.inr ⟨rfl, w⟩)
    obtain ⟨p5, q5⟩ := aft vM z2 k5 (by simp; omega)
    have q5 : mstate_after (M, [(("range" : Str), v)], ()) = Sx.nextS M (("range" : Str), v) := q5
    have c5 : m_law_idle_right_c5 s = Sx.nextS M (("range" : Str), v) := by unfold m_law_idle_right_c5; rw [c2, ev]; exact q5
    have cv : Sx.Can z M (("range" : Str), v) := ⟨a3, b3, .inr ⟨rfl, w⟩⟩
    have v5 := Sx.next_valid vM cv
    have l5 := next_len M (("range" : Str), v)
    obtain ⟨p6, q6⟩ := aft v5 z2 (ckl_one (A := (Sx.nextS M (("range" : Str), v)).2.2) (k := ("range" : Str)) a3 b3 (.inr ⟨rfl, Sx.next_some cv⟩)) (by simp; omega)
    have q6 : mstate_after (Sx.nextS M (("range" : Str), v), [(("range" : Str), v)], ()) = Sx.nextS (Sx.nextS M (("range" : Str), v)) (("range" : Str), v) := q6
    have c6 : m_law_idle_right_c6 s = m_law_idle_right_c5 s := by
      unfold m_law_idle_right_c6
      rw [ev, c5, q6]; exact range_two vM ea a3 b3
    have eg : M.2.2.getD 0 = a := by rw [ea]; rfl
    obtain ⟨p7, q7⟩ := aft vM z2 (ckl_one (A := M.2.2) (k := ("range" : Str)) a0 a1 (.inr ⟨rfl, w⟩)) (by simp; omega)
    have q7 : mstate_after (M, [(("range" : Str), a)], ()) = Sx.nextS M (("range" : Str), a) := q7
    have c7 : m_law_idle_right_c7 s = M := by
      unfold m_law_idle_right_c7
      rw [c2, eg, q7]; exact range_anc vM ea
    exact ⟨⟨p5, c5⟩, ⟨p6, c6⟩, ⟨by rw [eg]; exact p7, c7⟩⟩
  have h8 : m_law_idle_right_h9 s = true → m_law_idle_right_h8 s = false := fun w => by
    have w : ((m_law_idle_right_c2 s).2.2).isSome = true := w
    rw [c2] at w
    obtain ⟨_, ⟨_, r2⟩, _, r3⟩ := rng w
    unfold m_law_idle_right_h8
    rw [r2, r3, c2, df_t.mpr rfl, df_t.mpr rfl]; rfl
  -- the anchor, clicked twice
  obtain ⟨y, ey⟩ : ∃ y, (if (M.2.2).getD 0 = 0 then (0 : Int) else (M.2.2).getD 0) = y := ⟨_, rfl⟩
  have hy : 0 ≤ y ∧ y < z := by
    rw [← ey]
    split
    · omega
    · cases e : M.2.2 with
      | none => exact ⟨by decide, by show (0 : Int) < z; omega⟩
      | some a => exact anc a e
  obtain ⟨p10, q10⟩ := aft v4 z2 (ckl_two (A := some v) hy.1 hy.2) (by rw [len2]; show M.2.1.length + 2 ≤ 1000; omega)
  rw [fin_two v4 hy.1 hy.2] at q10
  have c10 : m_law_idle_right_c10 s = (M.1, M.2.1, some y) := by unfold m_law_idle_right_c10; rw [c2, c4, ey]; exact q10
  have rep : ∀ v : Int, RepOk ([(("click" : Str), v)] : List (Str × Int)) (2 : Int) := fun v => ⟨by decide, by decide, by show 1 * 2 ≤ sizeLine; omega⟩
  refine ⟨⟨?_, ?_, ?_, rep _, ?_, ?_, trivial⟩, ?_⟩
  · show m_law_draw_p (s.1, (s.2.2.1.length : Int) + 1, ())
    rw [s1, s3]; exact p1
  · show mstate_after_p (s.2.1, cutL s.2.2.1 none (some (m_law_idle_right_c1 s).2), ())
    rw [ecut, s2]; exact p2
  · show m_law_item_p ((m_law_idle_right_c1 s).1, s.2.1.1, 0, ())
    rw [s2, h.num]; exact p3
  · show mstate_after_p (m_law_idle_right_c2 s, repL [(("click" : Str), (m_law_idle_right_c3 s).2)] 2, ())
    rw [c2, ev]; exact p4
  · show if _ then _ else _
    rw [e4, if_neg Bool.false_ne_true]
    refine ⟨fun w => ?_, fun w => ?_, fun w _ => w, fun w _ => ?_, fun _ _ => trivial, fun _ => ⟨rep _, ?_, trivial⟩, trivial⟩
    · have w : ((m_law_idle_right_c2 s).2.2).isSome = true := w
      show mstate_after_p (m_law_idle_right_c2 s, [(("range" : Str), (m_law_idle_right_c3 s).2)], ())
      rw [c2] at w ⊢
      rw [ev]; exact (rng w).1.1
    · have w : ((m_law_idle_right_c2 s).2.2).isSome = true := w
      show mstate_after_p (m_law_idle_right_c5 s, [(("range" : Str), (m_law_idle_right_c3 s).2)], ())
      rw [c2] at w
      rw [(rng w).1.2, ev]; exact (rng w).2.1.1
    · have w : ((m_law_idle_right_c2 s).2.2).isSome = true := w
      show mstate_after_p (m_law_idle_right_c2 s, [(("range" : Str), ((m_law_idle_right_c2 s).2.2).getD 0)], ())
      rw [c2] at w ⊢
      exact (rng w).2.2.1
    · show mstate_after_p (m_law_idle_right_c4 s, repL [(("click" : Str), (if ((m_law_idle_right_c2 s).2.2).getD 0 = 0 then (0 : Int) else ((m_law_idle_right_c2 s).2.2).getD 0))] 2, ())
      rw [c2, c4, ey]; exact p10
  · have eo : (if m_law_idle_right_h9 s = true then (orElseO (if m_law_idle_right_h8 s = true then (some ((m_law_idle_right_c3 s).1, false)) else none) none) else none) = none := by
      by_cases w : m_law_idle_right_h9 s = true
      · rw [if_pos w, h8 w]; rfl
      · rw [if_neg w]
    unfold m_law_idle_right
    rw [hide_eq, e4, eo, if_neg Bool.false_ne_true]
    refine ⟨g3.mono (by omega), ?_⟩
    show (dfList (dfT2 dfInt dfInt)).eq (m_law_idle_right_c10 s).2.1 (m_law_idle_right_c2 s).2.1 = true
    rw [c10, c2]; exact df_t.mpr rfl
theorem law_main (ns : List Int) (hl : ns.length ≤ 63) : mlaw_p (ns, ()) ∧ mlaw (ns, ()) = true := by
  obtain ⟨s, es⟩ : ∃ s : mlaw_S, s = (ns, ()) := ⟨_, rfl⟩
  rw [← es]
  have ss : s.1 = ns := by rw [es]
  obtain ⟨cp, cl⟩ := cells_ok hl
  have hx : ∀ x ∈ mlaw_L2x s, 0 ≤ x.1 ∧ x.1 < 1000 := fun x h => by
    obtain ⟨k, hk⟩ := List.mem_iff_getElem?.mp (show x ∈ enumL (mlaw_c1 s) from h)
    obtain ⟨y, h1, h2⟩ := enumL_get _ _ _ hk
    have h4 : (mlaw_c1 s).length ≤ 100 := by unfold mlaw_c1; rw [ss]; exact cl
    have h3 := Nat.lt_of_lt_of_le (List.getElem?_eq_some_iff.mp h1).1 h4
    rw [h2]
    exact ⟨by show 0 ≤ (k : Int); omega, by show (k : Int) < 1000; omega⟩
  have main := loop_none (c := fun m x => mlaw_L2c ((s, m), x)) (r := fun m x => mlaw_L2r ((s, m), x)) (step := fun m x => mlaw_L2s ((s, m), x)) (fun _ _ => True) (mlaw_L2x s) 0 (mlaw_L2i s) trivial fun j m x _ hm _ => by
    obtain ⟨t, et⟩ : ∃ t : mlaw_L2T, t = ((s, m), x) := ⟨_, rfl⟩
    rw [← et]
    have t2 : t.2 = x := by rw [et]
    have hv := hx x hm
    have gp := src_pre (c := x.2) hv.1 hv.2
    have g := src_good (c := x.2) hv.1 hv.2
    have e3 : m_law_source (x.2, x.1, ()) = mlaw_c3 t := by unfold mlaw_c3; rw [t2]
    rw [e3] at g
    obtain ⟨p4, g4, vs, z2, l4⟩ := st_ok (sc := t.1.1.1) g (by omega)
    have e4 : m_law_start (mlaw_c3 t, t.1.1.1, 100, ()) = mlaw_c4 t := rfl
    rw [e4] at g4 vs z2 l4
    obtain ⟨z, ez⟩ : ∃ z, (mlaw_c4 t).2.1 = z := ⟨_, rfl⟩
    rw [ez] at vs z2
    have z1 := vs.pos
    have hM : (0 : Int) ≤ (if (dfList dfInt).eq t.1.1.1 ([] : List Int) = true then (4 : Int) else (180 : Int)) ∧ (if (dfList dfInt).eq t.1.1.1 ([] : List Int) = true then (4 : Int) else (180 : Int)) ≤ 200 := by split <;> decide
    obtain ⟨p5, g5, k5, l5⟩ := pressed_ok (A := (mlaw_c4 t).2.2.2) g4 (by omega) z1 z2 hM.1 hM.2
    have e5 : m_law_pressed ((mlaw_c4 t).1, z, (if (dfList dfInt).eq t.1.1.1 ([] : List Int) = true then (4 : Int) else (180 : Int)), (mlaw_c4 t).2.2.2, ()) = mlaw_c5 t := by rw [← ez]; rfl
    rw [e5] at g5 k5 l5
    obtain ⟨p6, g6, q6⟩ := pieces_right g5 (by omega) vs z2 k5 l4 l5
    have e6 : m_law_pieces_right ((mlaw_c5 t).1, (mlaw_c4 t).2, (mlaw_c5 t).2, ()) = mlaw_c6 t := rfl
    rw [e6] at g6 q6
    have h7 : mlaw_h7 t = false := by unfold mlaw_h7; rw [q6]; rfl
    have lx : (mlaw_L8x t).length = 3 := rfl
    have inner := loop_none (c := fun m x => mlaw_L8c ((t, m), x)) (r := fun m x => mlaw_L8r ((t, m), x)) (step := fun m x => mlaw_L8s ((t, m), x)) (fun j b => Good (5000 + 10 * j) b) (mlaw_L8x t) 0 (mlaw_L8i t) (g6.mono (by omega)) fun j b y hj _ hb => by
      obtain ⟨o1, o2, o3⟩ := idle_right hb (by omega) vs z2 k5 l4 l5
      have f9 : mlaw_h10 ((t, b), y) = false := by
        show (!(mlaw_c9 ((t, b), y)).2) = false
        rw [show (mlaw_c9 ((t, b), y)).2 = true from o3]; rfl
      refine ⟨⟨o1, fun _ => trivial, trivial⟩, ?_, o2.mono (by omega)⟩
      show orElseO (if mlaw_h10 ((t, b), y) = true then _ else none) none = none
      rw [f9]; rfl
    obtain ⟨lc, lr⟩ := inner
    rw [← LoopR_eq] at lr
    have lr' : mlaw_L8R t = none := lr
    refine ⟨⟨?_, p4, ?_, p6, fun _ => ⟨rg_ok (by decide) (by decide), lc, fun _ => trivial, trivial⟩, trivial⟩, ?_, trivial⟩
    · show m_law_source_p (t.2.2, t.2.1, ())
      rw [t2]; exact gp
    · show m_law_pressed_p ((mlaw_c4 t).1, (mlaw_c4 t).2.1, (if (dfList dfInt).eq t.1.1.1 ([] : List Int) = true then (4 : Int) else 180), (mlaw_c4 t).2.2.2, ())
      rw [ez]; exact p5
    · show orElseO (if mlaw_h7 t = true then _ else none) (orElseO (mlaw_L8R t) none) = none
      rw [h7, lr']
      rfl
  obtain ⟨lc, lr⟩ := main
  rw [← LoopR_eq] at lr
  have lr' : mlaw_L2R s = none := lr
  refine ⟨⟨?_, lc, fun _ => trivial, trivial⟩, ?_⟩
  · show m_law_cells_p (s.1, 8, ())
    rw [ss]; exact cp
  · unfold mlaw
    rw [hide_eq, lr']
    rfl
theorem law_pre (ns : List Int) (hl : ns.length ≤ 63) (hb : ∀ z ∈ ns, Builtin.Int.intBits z ≤ 1048576) : mlaw_p (ns, ()) := (law_main ns hl).1
theorem law_true (ns : List Int) (hl : ns.length ≤ 63) (hb : ∀ z ∈ ns, Builtin.Int.intBits z ≤ 1048576) : mlaw (ns, ()) = true := (law_main ns hl).2
end Lw

namespace Lw
open PySem PySem.Spec PyProof.Rows L2 Dx
section
theorem all_mk {l : PySem.W.OpenLaw} {w : World} {K : PySem.W.Frag} {h : Heap} {mg : Str → Option Value} {fa : Addr} {f33 : Addr} {od33 an33 : Option Addr} {sl33 : Array (Option Value)} {oc33 kV33 dc33 pm33 cd33 ct33 : Value} {f31 : Addr} {od31 an31 : Option Addr} {sl31 : Array (Option Value)} {oc31 kV31 dc31 pm31 cd31 ct31 : Value} {f32 : Addr} {od32 an32 : Option Addr} {sl32 : Array (Option Value)} {oc32 kV32 dc32 pm32 cd32 ct32 : Value} {f34 : Addr} {od34 an34 : Option Addr} {sl34 : Array (Option Value)} {oc34 kV34 dc34 pm34 cd34 ct34 : Value} {f36 : Addr} {od36 an36 : Option Addr} {sl36 : Array (Option Value)} {oc36 kV36 dc36 pm36 cd36 ct36 : Value} {f38 : Addr} {od38 an38 : Option Addr} {sl38 : Array (Option Value)} {oc38 kV38 dc38 pm38 cd38 ct38 : Value} {f35 : Addr} {od35 an35 : Option Addr} {sl35 : Array (Option Value)} {oc35 kV35 dc35 pm35 cd35 ct35 : Value} {f37 : Addr} {od37 an37 : Option Addr} {sl37 : Array (Option Value)} {oc37 kV37 dc37 pm37 cd37 ct37 : Value} {f8 : Addr} {od8 an8 : Option Addr} {sl8 : Array (Option Value)} {oc8 kV8 dc8 pm8 cd8 ct8 : Value} {f9 : Addr} {od9 an9 : Option Addr} {sl9 : Array (Option Value)} {oc9 kV9 dc9 pm9 cd9 ct9 : Value} {f10 : Addr} {od10 an10 : Option Addr} {sl10 : Array (Option Value)} {oc10 kV10 dc10 pm10 cd10 ct10 : Value} {f11 : Addr} {od11 an11 : Option Addr} {sl11 : Array (Option Value)} {oc11 kV11 dc11 pm11 cd11 ct11 : Value} {f12 : Addr} {od12 an12 : Option Addr} {sl12 : Array (Option Value)} {oc12 kV12 dc12 pm12 cd12 ct12 : Value} {f21 : Addr} {od21 an21 : Option Addr} {sl21 : Array (Option Value)} {oc21 kV21 dc21 pm21 cd21 ct21 : Value} {f22 : Addr} {od22 an22 : Option Addr} {sl22 : Array (Option Value)} {oc22 kV22 dc22 pm22 cd22 ct22 : Value} {f18 : Addr} {od18 an18 : Option Addr} {sl18 : Array (Option Value)} {oc18 kV18 dc18 pm18 cd18 ct18 : Value} {f19 : Addr} {od19 an19 : Option Addr} {sl19 : Array (Option Value)} {oc19 kV19 dc19 pm19 cd19 ct19 : Value} {f20 : Addr} {od20 an20 : Option Addr} {sl20 : Array (Option Value)} {oc20 kV20 dc20 pm20 cd20 ct20 : Value} {f13 : Addr} {od13 an13 : Option Addr} {sl13 : Array (Option Value)} {oc13 kV13 dc13 pm13 cd13 ct13 : Value} {f14 : Addr} {od14 an14 : Option Addr} {sl14 : Array (Option Value)} {oc14 kV14 dc14 pm14 cd14 ct14 : Value} {f24 : Addr} {od24 an24 : Option Addr} {sl24 : Array (Option Value)} {oc24 kV24 dc24 pm24 cd24 ct24 : Value} {f23 : Addr} {od23 an23 : Option Addr} {sl23 : Array (Option Value)} {oc23 kV23 dc23 pm23 cd23 ct23 : Value} {f25 : Addr} {od25 an25 : Option Addr} {sl25 : Array (Option Value)} {oc25 kV25 dc25 pm25 cd25 ct25 : Value} {f26 : Addr} {od26 an26 : Option Addr} {sl26 : Array (Option Value)} {oc26 kV26 dc26 pm26 cd26 ct26 : Value} {f27 : Addr} {od27 an27 : Option Addr} {sl27 : Array (Option Value)} {oc27 kV27 dc27 pm27 cd27 ct27 : Value} {f28 : Addr} {od28 an28 : Option Addr} {sl28 : Array (Option Value)} {oc28 kV28 dc28 pm28 cd28 ct28 : Value} {f29 : Addr} {od29 an29 : Option Addr} {sl29 : Array (Option Value)} {oc29 kV29 dc29 pm29 cd29 ct29 : Value} {f39 : Addr} {od39 an39 : Option Addr} {sl39 : Array (Option Value)} {oc39 kV39 dc39 pm39 cd39 ct39 : Value} {f40 : Addr} {od40 an40 : Option Addr} {sl40 : Array (Option Value)} {oc40 kV40 dc40 pm40 cd40 ct40 : Value} {f41 : Addr} {od41 an41 : Option Addr} {sl41 : Array (Option Value)} {oc41 kV41 dc41 pm41 cd41 ct41 : Value} {t_CLICK : Tok} {t_MOST_ITEMS : Tok} {t_RANGE : Tok} (X : K.In h) (G : h.Ns mainGlobals mg) (hfa : mg "law" = some (.ref fa))
    (a33 : PySem.W.nsIn K mainGlobals "_law_cells" = some (some (.ref f33))) (l33 : K.lookup f33 = some ⟨oc33, od33, .func (PySem.W.fnOf "_law_cells" "_law_cells" (defArgs (topS 33)) (defBody (topS 33)) (defScope (topS 33)) .none kV33 dc33 pm33 an33 cd33 ct33), sl33⟩) (c33 : PySem.W.codeIn K cd33 "_law_cells" = true) (k33 : PySem.W.keepIn K (.ref f33) = true)
    (a31 : PySem.W.nsIn K mainGlobals "_law_source" = some (some (.ref f31))) (l31 : K.lookup f31 = some ⟨oc31, od31, .func (PySem.W.fnOf "_law_source" "_law_source" (defArgs (topS 31)) (defBody (topS 31)) (defScope (topS 31)) .none kV31 dc31 pm31 an31 cd31 ct31), sl31⟩) (c31 : PySem.W.codeIn K cd31 "_law_source" = true) (k31 : PySem.W.keepIn K (.ref f31) = true)
    (a32 : PySem.W.nsIn K mainGlobals "_law_draw" = some (some (.ref f32))) (l32 : K.lookup f32 = some ⟨oc32, od32, .func (PySem.W.fnOf "_law_draw" "_law_draw" (defArgs (topS 32)) (defBody (topS 32)) (defScope (topS 32)) .none kV32 dc32 pm32 an32 cd32 ct32), sl32⟩) (c32 : PySem.W.codeIn K cd32 "_law_draw" = true) (k32 : PySem.W.keepIn K (.ref f32) = true)
    (a34 : PySem.W.nsIn K mainGlobals "_law_size" = some (some (.ref f34))) (l34 : K.lookup f34 = some ⟨oc34, od34, .func (PySem.W.fnOf "_law_size" "_law_size" (defArgs (topS 34)) (defBody (topS 34)) (defScope (topS 34)) .none kV34 dc34 pm34 an34 cd34 ct34), sl34⟩) (c34 : PySem.W.codeIn K cd34 "_law_size" = true) (k34 : PySem.W.keepIn K (.ref f34) = true)
    (a36 : PySem.W.nsIn K mainGlobals "_law_marked" = some (some (.ref f36))) (l36 : K.lookup f36 = some ⟨oc36, od36, .func (PySem.W.fnOf "_law_marked" "_law_marked" (defArgs (topS 36)) (defBody (topS 36)) (defScope (topS 36)) .none kV36 dc36 pm36 an36 cd36 ct36), sl36⟩) (c36 : PySem.W.codeIn K cd36 "_law_marked" = true) (k36 : PySem.W.keepIn K (.ref f36) = true)
    (a38 : PySem.W.nsIn K mainGlobals "_law_start" = some (some (.ref f38))) (l38 : K.lookup f38 = some ⟨oc38, od38, .func (PySem.W.fnOf "_law_start" "_law_start" (defArgs (topS 38)) (defBody (topS 38)) (defScope (topS 38)) .none kV38 dc38 pm38 an38 cd38 ct38), sl38⟩) (c38 : PySem.W.codeIn K cd38 "_law_start" = true) (k38 : PySem.W.keepIn K (.ref f38) = true)
    (a35 : PySem.W.nsIn K mainGlobals "_law_item" = some (some (.ref f35))) (l35 : K.lookup f35 = some ⟨oc35, od35, .func (PySem.W.fnOf "_law_item" "_law_item" (defArgs (topS 35)) (defBody (topS 35)) (defScope (topS 35)) .none kV35 dc35 pm35 an35 cd35 ct35), sl35⟩) (c35 : PySem.W.codeIn K cd35 "_law_item" = true) (k35 : PySem.W.keepIn K (.ref f35) = true)
    (a37 : PySem.W.nsIn K mainGlobals "_law_pressed" = some (some (.ref f37))) (l37 : K.lookup f37 = some ⟨oc37, od37, .func (PySem.W.fnOf "_law_pressed" "_law_pressed" (defArgs (topS 37)) (defBody (topS 37)) (defScope (topS 37)) .none kV37 dc37 pm37 an37 cd37 ct37), sl37⟩) (c37 : PySem.W.codeIn K cd37 "_law_pressed" = true) (k37 : PySem.W.keepIn K (.ref f37) = true)
    (a8 : PySem.W.nsIn K mainGlobals "is_integer" = some (some (.ref f8))) (l8 : K.lookup f8 = some ⟨oc8, od8, .func (PySem.W.fnOf "is_integer" "is_integer" (defArgs (topS 8)) (defBody (topS 8)) (defScope (topS 8)) .none kV8 dc8 pm8 an8 cd8 ct8), sl8⟩) (c8 : PySem.W.codeIn K cd8 "is_integer" = true) (k8 : PySem.W.keepIn K (.ref f8) = true)
    (a9 : PySem.W.nsIn K mainGlobals "check_items" = some (some (.ref f9))) (l9 : K.lookup f9 = some ⟨oc9, od9, .func (PySem.W.fnOf "check_items" "check_items" (defArgs (topS 9)) (defBody (topS 9)) (defScope (topS 9)) .none kV9 dc9 pm9 an9 cd9 ct9), sl9⟩) (c9 : PySem.W.codeIn K cd9 "check_items" = true) (k9 : PySem.W.keepIn K (.ref f9) = true)
    (a10 : PySem.W.nsIn K mainGlobals "is_run" = some (some (.ref f10))) (l10 : K.lookup f10 = some ⟨oc10, od10, .func (PySem.W.fnOf "is_run" "is_run" (defArgs (topS 10)) (defBody (topS 10)) (defScope (topS 10)) .none kV10 dc10 pm10 an10 cd10 ct10), sl10⟩) (c10 : PySem.W.codeIn K cd10 "is_run" = true) (k10 : PySem.W.keepIn K (.ref f10) = true)
    (a11 : PySem.W.nsIn K mainGlobals "are_runs" = some (some (.ref f11))) (l11 : K.lookup f11 = some ⟨oc11, od11, .func (PySem.W.fnOf "are_runs" "are_runs" (defArgs (topS 11)) (defBody (topS 11)) (defScope (topS 11)) .none kV11 dc11 pm11 an11 cd11 ct11), sl11⟩) (c11 : PySem.W.codeIn K cd11 "are_runs" = true) (k11 : PySem.W.keepIn K (.ref f11) = true)
    (a12 : PySem.W.nsIn K mainGlobals "is_selection" = some (some (.ref f12))) (l12 : K.lookup f12 = some ⟨oc12, od12, .func (PySem.W.fnOf "is_selection" "is_selection" (defArgs (topS 12)) (defBody (topS 12)) (defScope (topS 12)) .none kV12 dc12 pm12 an12 cd12 ct12), sl12⟩) (c12 : PySem.W.codeIn K cd12 "is_selection" = true) (k12 : PySem.W.keepIn K (.ref f12) = true)
    (a21 : PySem.W.nsIn K mainGlobals "is_state" = some (some (.ref f21))) (l21 : K.lookup f21 = some ⟨oc21, od21, .func (PySem.W.fnOf "is_state" "is_state" (defArgs (topS 21)) (defBody (topS 21)) (defScope (topS 21)) .none kV21 dc21 pm21 an21 cd21 ct21), sl21⟩) (c21 : PySem.W.codeIn K cd21 "is_state" = true) (k21 : PySem.W.keepIn K (.ref f21) = true)
    (a22 : PySem.W.nsIn K mainGlobals "check_state" = some (some (.ref f22))) (l22 : K.lookup f22 = some ⟨oc22, od22, .func (PySem.W.fnOf "check_state" "check_state" (defArgs (topS 22)) (defBody (topS 22)) (defScope (topS 22)) .none kV22 dc22 pm22 an22 cd22 ct22), sl22⟩) (c22 : PySem.W.codeIn K cd22 "check_state" = true) (k22 : PySem.W.keepIn K (.ref f22) = true)
    (a18 : PySem.W.nsIn K mainGlobals "is_click" = some (some (.ref f18))) (l18 : K.lookup f18 = some ⟨oc18, od18, .func (PySem.W.fnOf "is_click" "is_click" (defArgs (topS 18)) (defBody (topS 18)) (defScope (topS 18)) .none kV18 dc18 pm18 an18 cd18 ct18), sl18⟩) (c18 : PySem.W.codeIn K cd18 "is_click" = true) (k18 : PySem.W.keepIn K (.ref f18) = true)
    (a19 : PySem.W.nsIn K mainGlobals "check_clicks" = some (some (.ref f19))) (l19 : K.lookup f19 = some ⟨oc19, od19, .func (PySem.W.fnOf "check_clicks" "check_clicks" (defArgs (topS 19)) (defBody (topS 19)) (defScope (topS 19)) .none kV19 dc19 pm19 an19 cd19 ct19), sl19⟩) (c19 : PySem.W.codeIn K cd19 "check_clicks" = true) (k19 : PySem.W.keepIn K (.ref f19) = true)
    (a20 : PySem.W.nsIn K mainGlobals "check_can_begin" = some (some (.ref f20))) (l20 : K.lookup f20 = some ⟨oc20, od20, .func (PySem.W.fnOf "check_can_begin" "check_can_begin" (defArgs (topS 20)) (defBody (topS 20)) (defScope (topS 20)) .none kV20 dc20 pm20 an20 cd20 ct20), sl20⟩) (c20 : PySem.W.codeIn K cd20 "check_can_begin" = true) (k20 : PySem.W.keepIn K (.ref f20) = true)
    (a13 : PySem.W.nsIn K mainGlobals "borders_in" = some (some (.ref f13))) (l13 : K.lookup f13 = some ⟨oc13, od13, .func (PySem.W.fnOf "borders_in" "borders_in" (defArgs (topS 13)) (defBody (topS 13)) (defScope (topS 13)) .none kV13 dc13 pm13 an13 cd13 ct13), sl13⟩) (c13 : PySem.W.codeIn K cd13 "borders_in" = true) (k13 : PySem.W.keepIn K (.ref f13) = true)
    (a14 : PySem.W.nsIn K mainGlobals "from_borders" = some (some (.ref f14))) (l14 : K.lookup f14 = some ⟨oc14, od14, .func (PySem.W.fnOf "from_borders" "from_borders" (defArgs (topS 14)) (defBody (topS 14)) (defScope (topS 14)) .none kV14 dc14 pm14 an14 cd14 ct14), sl14⟩) (c14 : PySem.W.codeIn K cd14 "from_borders" = true) (k14 : PySem.W.keepIn K (.ref f14) = true)
    (a24 : PySem.W.nsIn K mainGlobals "with_click" = some (some (.ref f24))) (l24 : K.lookup f24 = some ⟨oc24, od24, .func (PySem.W.fnOf "with_click" "with_click" (defArgs (topS 24)) (defBody (topS 24)) (defScope (topS 24)) .none kV24 dc24 pm24 an24 cd24 ct24), sl24⟩) (c24 : PySem.W.codeIn K cd24 "with_click" = true) (k24 : PySem.W.keepIn K (.ref f24) = true)
    (a23 : PySem.W.nsIn K mainGlobals "marked_in" = some (some (.ref f23))) (l23 : K.lookup f23 = some ⟨oc23, od23, .func (PySem.W.fnOf "marked_in" "marked_in" (defArgs (topS 23)) (defBody (topS 23)) (defScope (topS 23)) .none kV23 dc23 pm23 an23 cd23 ct23), sl23⟩) (c23 : PySem.W.codeIn K cd23 "marked_in" = true) (k23 : PySem.W.keepIn K (.ref f23) = true)
    (a25 : PySem.W.nsIn K mainGlobals "with_range" = some (some (.ref f25))) (l25 : K.lookup f25 = some ⟨oc25, od25, .func (PySem.W.fnOf "with_range" "with_range" (defArgs (topS 25)) (defBody (topS 25)) (defScope (topS 25)) .none kV25 dc25 pm25 an25 cd25 ct25), sl25⟩) (c25 : PySem.W.codeIn K cd25 "with_range" = true) (k25 : PySem.W.keepIn K (.ref f25) = true)
    (a26 : PySem.W.nsIn K mainGlobals "next_state" = some (some (.ref f26))) (l26 : K.lookup f26 = some ⟨oc26, od26, .func (PySem.W.fnOf "next_state" "next_state" (defArgs (topS 26)) (defBody (topS 26)) (defScope (topS 26)) .none kV26 dc26 pm26 an26 cd26 ct26), sl26⟩) (c26 : PySem.W.codeIn K cd26 "next_state" = true) (k26 : PySem.W.keepIn K (.ref f26) = true)
    (a27 : PySem.W.nsIn K mainGlobals "play" = some (some (.ref f27))) (l27 : K.lookup f27 = some ⟨oc27, od27, .func (PySem.W.fnOf "play" "play" (defArgs (topS 27)) (defBody (topS 27)) (defScope (topS 27)) .none kV27 dc27 pm27 an27 cd27 ct27), sl27⟩) (c27 : PySem.W.codeIn K cd27 "play" = true) (k27 : PySem.W.keepIn K (.ref f27) = true)
    (a28 : PySem.W.nsIn K mainGlobals "states_along" = some (some (.ref f28))) (l28 : K.lookup f28 = some ⟨oc28, od28, .func (PySem.W.fnOf "states_along" "states_along" (defArgs (topS 28)) (defBody (topS 28)) (defScope (topS 28)) .none kV28 dc28 pm28 an28 cd28 ct28), sl28⟩) (c28 : PySem.W.codeIn K cd28 "states_along" = true) (k28 : PySem.W.keepIn K (.ref f28) = true)
    (a29 : PySem.W.nsIn K mainGlobals "state_after" = some (some (.ref f29))) (l29 : K.lookup f29 = some ⟨oc29, od29, .func (PySem.W.fnOf "state_after" "state_after" (defArgs (topS 29)) (defBody (topS 29)) (defScope (topS 29)) .none kV29 dc29 pm29 an29 cd29 ct29), sl29⟩) (c29 : PySem.W.codeIn K cd29 "state_after" = true) (k29 : PySem.W.keepIn K (.ref f29) = true)
    (a39 : PySem.W.nsIn K mainGlobals "_law_pieces_right" = some (some (.ref f39))) (l39 : K.lookup f39 = some ⟨oc39, od39, .func (PySem.W.fnOf "_law_pieces_right" "_law_pieces_right" (defArgs (topS 39)) (defBody (topS 39)) (defScope (topS 39)) .none kV39 dc39 pm39 an39 cd39 ct39), sl39⟩) (c39 : PySem.W.codeIn K cd39 "_law_pieces_right" = true) (k39 : PySem.W.keepIn K (.ref f39) = true)
    (a40 : PySem.W.nsIn K mainGlobals "_law_idle_right" = some (some (.ref f40))) (l40 : K.lookup f40 = some ⟨oc40, od40, .func (PySem.W.fnOf "_law_idle_right" "_law_idle_right" (defArgs (topS 40)) (defBody (topS 40)) (defScope (topS 40)) .none kV40 dc40 pm40 an40 cd40 ct40), sl40⟩) (c40 : PySem.W.codeIn K cd40 "_law_idle_right" = true) (k40 : PySem.W.keepIn K (.ref f40) = true)
    (a41 : PySem.W.nsIn K mainGlobals "law" = some (some (.ref f41))) (l41 : K.lookup f41 = some ⟨oc41, od41, .func (PySem.W.fnOf "law" "law" (defArgs (topS 41)) (defBody (topS 41)) (defScope (topS 41)) .none kV41 dc41 pm41 an41 cd41 ct41), sl41⟩) (c41 : PySem.W.codeIn K cd41 "law" = true) (k41 : PySem.W.keepIn K (.ref f41) = true)
    (z_all : PySem.W.nsIn K mainGlobals "all" = some none)
    (z_any : PySem.W.nsIn K mainGlobals "any" = some none)
    (z_bool : PySem.W.nsIn K mainGlobals "bool" = some none)
    (z_enumerate : PySem.W.nsIn K mainGlobals "enumerate" = some none)
    (z_int : PySem.W.nsIn K mainGlobals "int" = some none)
    (z_isinstance : PySem.W.nsIn K mainGlobals "isinstance" = some none)
    (z_len : PySem.W.nsIn K mainGlobals "len" = some none)
    (z_list : PySem.W.nsIn K mainGlobals "list" = some none)
    (z_max : PySem.W.nsIn K mainGlobals "max" = some none)
    (z_min : PySem.W.nsIn K mainGlobals "min" = some none)
    (z_range : PySem.W.nsIn K mainGlobals "range" = some none)
    (z_sorted : PySem.W.nsIn K mainGlobals "sorted" = some none)
    (z_tuple : PySem.W.nsIn K mainGlobals "tuple" = some none)
    (z_zip : PySem.W.nsIn K mainGlobals "zip" = some none)
    (y_CLICK : PySem.W.nsIn K mainGlobals "CLICK" = some (some (.str "click" t_CLICK)))
    (y_MOST_ITEMS : PySem.W.nsIn K mainGlobals "MOST_ITEMS" = some (some (.int 1000000000000000000000000000000 t_MOST_ITEMS)))
    (y_RANGE : PySem.W.nsIn K mainGlobals "RANGE" = some (some (.str "range" t_RANGE)))
    : ∃ fd : FuncData, (∀ (s : Shared) (u : Value), BindsTo s fd ⟨[u], []⟩ [("_law_script", u)]) ∧ ∀ base : Heap, K.In base → base.Ns mainGlobals mg → FnG l.prog w K mg base CX0 10 fa fd ["_law_script"] (SpOf (fmLaw K) mlaw_p mlaw) := by
  have e := hfa.symm.trans (PySem.W.mg_of X G a41)
  cases e
  have F33 := fun_mk (st := topS 33) l33 c33 k33
  have F31 := fun_mk (st := topS 31) l31 c31 k31
  have F32 := fun_mk (st := topS 32) l32 c32 k32
  have F34 := fun_mk (st := topS 34) l34 c34 k34
  have F36 := fun_mk (st := topS 36) l36 c36 k36
  have F38 := fun_mk (st := topS 38) l38 c38 k38
  have F35 := fun_mk (st := topS 35) l35 c35 k35
  have F37 := fun_mk (st := topS 37) l37 c37 k37
  have F8 := fun_mk (st := topS 8) l8 c8 k8
  have F9 := fun_mk (st := topS 9) l9 c9 k9
  have F10 := fun_mk (st := topS 10) l10 c10 k10
  have F11 := fun_mk (st := topS 11) l11 c11 k11
  have F12 := fun_mk (st := topS 12) l12 c12 k12
  have F21 := fun_mk (st := topS 21) l21 c21 k21
  have F22 := fun_mk (st := topS 22) l22 c22 k22
  have F18 := fun_mk (st := topS 18) l18 c18 k18
  have F19 := fun_mk (st := topS 19) l19 c19 k19
  have F20 := fun_mk (st := topS 20) l20 c20 k20
  have F13 := fun_mk (st := topS 13) l13 c13 k13
  have F14 := fun_mk (st := topS 14) l14 c14 k14
  have F24 := fun_mk (st := topS 24) l24 c24 k24
  have F23 := fun_mk (st := topS 23) l23 c23 k23
  have F25 := fun_mk (st := topS 25) l25 c25 k25
  have F26 := fun_mk (st := topS 26) l26 c26 k26
  have F27 := fun_mk (st := topS 27) l27 c27 k27
  have F28 := fun_mk (st := topS 28) l28 c28 k28
  have F29 := fun_mk (st := topS 29) l29 c29 k29
  have F39 := fun_mk (st := topS 39) l39 c39 k39
  have F40 := fun_mk (st := topS 40) l40 c40 k40
  have F41 := fun_mk (st := topS 41) l41 c41 k41
  exact ⟨_, fun s u => .of_eq rfl, fun base _ _ => mlaw_ok (⟨f33, _, F33, (PySem.W.mg_of X G a33), (F33.binds (ps := ["_law_script", "_law_count"]) fun _ _ _ _ _ _ us hl => match us, hl with | [_, _], _ => rfl), f31, _, F31, (PySem.W.mg_of X G a31), (F31.binds (ps := ["_law_cell", "_law_index"]) fun _ _ _ _ _ _ us hl => match us, hl with | [_, _], _ => rfl), f32, _, F32, (PySem.W.mg_of X G a32), (F32.binds (ps := ["_law_source_here", "_law_count"]) fun _ _ _ _ _ _ us hl => match us, hl with | [_, _], _ => rfl), f34, _, F34, (PySem.W.mg_of X G a34), (F34.binds (ps := ["_law_source_here", "_law_script"]) fun _ _ _ _ _ _ us hl => match us, hl with | [_, _], _ => rfl), f36, _, F36, (PySem.W.mg_of X G a36), (F36.binds (ps := ["_law_source_here", "_law_size_here", "_law_most"]) fun _ _ _ _ _ _ us hl => match us, hl with | [_, _, _], _ => rfl), f38, _, F38, (PySem.W.mg_of X G a38), (F38.binds (ps := ["_law_source_here", "_law_script", "_law_most"]) fun _ _ _ _ _ _ us hl => match us, hl with | [_, _, _], _ => rfl), f35, _, F35, (PySem.W.mg_of X G a35), (F35.binds (ps := ["_law_source_here", "_law_size_here", "_law_near"]) fun _ _ _ _ _ _ us hl => match us, hl with | [_, _, _], _ => rfl), f37, _, F37, (PySem.W.mg_of X G a37), (F37.binds (ps := ["_law_source_here", "_law_size_here", "_law_most", "_law_anchor"]) fun _ _ _ _ _ _ us hl => match us, hl with | [_, _, _, _], _ => rfl), f8, _, F8, (PySem.W.mg_of X G a8), (F8.binds (ps := ["value", "least", "most"]) fun _ _ _ _ _ _ us hl => match us, hl with | [_, _, _], _ => rfl), f9, _, F9, (PySem.W.mg_of X G a9), (F9.binds (ps := ["items"]) fun _ _ _ _ _ _ us hl => match us, hl with | [_], _ => rfl), f10, _, F10, (PySem.W.mg_of X G a10), (F10.binds (ps := ["items", "value"]) fun _ _ _ _ _ _ us hl => match us, hl with | [_, _], _ => rfl), f11, _, F11, (PySem.W.mg_of X G a11), (F11.binds (ps := ["items", "value"]) fun _ _ _ _ _ _ us hl => match us, hl with | [_, _], _ => rfl), f12, _, F12, (PySem.W.mg_of X G a12), (F12.binds (ps := ["items", "value"]) fun _ _ _ _ _ _ us hl => match us, hl with | [_, _], _ => rfl), f21, _, F21, (PySem.W.mg_of X G a21), (F21.binds (ps := ["value"]) fun _ _ _ _ _ _ us hl => match us, hl with | [_], _ => rfl), f22, _, F22, (PySem.W.mg_of X G a22), (F22.binds (ps := ["state"]) fun _ _ _ _ _ _ us hl => match us, hl with | [_], _ => rfl), f18, _, F18, (PySem.W.mg_of X G a18), (F18.binds (ps := ["items", "value"]) fun _ _ _ _ _ _ us hl => match us, hl with | [_, _], _ => rfl), f19, _, F19, (PySem.W.mg_of X G a19), (F19.binds (ps := ["items", "clicks"]) fun _ _ _ _ _ _ us hl => match us, hl with | [_, _], _ => rfl), f20, _, F20, (PySem.W.mg_of X G a20), (F20.binds (ps := ["clicks", "anchor"]) fun _ _ _ _ _ _ us hl => match us, hl with | [_, _], _ => rfl), f13, _, F13, (PySem.W.mg_of X G a13), (F13.binds (ps := ["selection"]) fun _ _ _ _ _ _ us hl => match us, hl with | [_], _ => rfl), f14, _, F14, (PySem.W.mg_of X G a14), (F14.binds (ps := ["borders"]) fun _ _ _ _ _ _ us hl => match us, hl with | [_], _ => rfl), f24, _, F24, (PySem.W.mg_of X G a24), (F24.binds (ps := ["selection", "item"]) fun _ _ _ _ _ _ us hl => match us, hl with | [_, _], _ => rfl), f23, _, F23, (PySem.W.mg_of X G a23), (F23.binds (ps := ["selection", "item"]) fun _ _ _ _ _ _ us hl => match us, hl with | [_, _], _ => rfl), f25, _, F25, (PySem.W.mg_of X G a25), (F25.binds (ps := ["selection", "first", "last", "marked"]) fun _ _ _ _ _ _ us hl => match us, hl with | [_, _, _, _], _ => rfl), f26, _, F26, (PySem.W.mg_of X G a26), (F26.binds (ps := ["state", "click"]) fun _ _ _ _ _ _ us hl => match us, hl with | [_, _], _ => rfl), f27, _, F27, (PySem.W.mg_of X G a27), (F27.binds (ps := ["state", "clicks"]) fun _ _ _ _ _ _ us hl => match us, hl with | [_, _], _ => rfl), f28, _, F28, (PySem.W.mg_of X G a28), (F28.binds (ps := ["state", "clicks"]) fun _ _ _ _ _ _ us hl => match us, hl with | [_, _], _ => rfl), f29, _, F29, (PySem.W.mg_of X G a29), (F29.binds (ps := ["state", "clicks"]) fun _ _ _ _ _ _ us hl => match us, hl with | [_, _], _ => rfl), f39, _, F39, (PySem.W.mg_of X G a39), (F39.binds (ps := ["_law_source_here", "_law_start_here", "_law_pressed_here"]) fun _ _ _ _ _ _ us hl => match us, hl with | [_, _, _], _ => rfl), f40, _, F40, (PySem.W.mg_of X G a40), (F40.binds (ps := ["_law_source_here", "_law_start_here", "_law_pressed_here"]) fun _ _ _ _ _ _ us hl => match us, hl with | [_, _, _], _ => rfl), fa, _, F41, (PySem.W.mg_of X G a41), (F41.binds (ps := ["_law_script"]) fun _ _ _ _ _ _ us hl => match us, hl with | [_], _ => rfl), (PySem.W.mg_none_of X G z_all), (PySem.W.mg_none_of X G z_any), (PySem.W.mg_none_of X G z_bool), (PySem.W.mg_none_of X G z_enumerate), (PySem.W.mg_none_of X G z_int), (PySem.W.mg_none_of X G z_isinstance), (PySem.W.mg_none_of X G z_len), (PySem.W.mg_none_of X G z_list), (PySem.W.mg_none_of X G z_max), (PySem.W.mg_none_of X G z_min), (PySem.W.mg_none_of X G z_range), (PySem.W.mg_none_of X G z_sorted), (PySem.W.mg_none_of X G z_tuple), (PySem.W.mg_none_of X G z_zip), t_CLICK, (PySem.W.mg_of X G y_CLICK), t_MOST_ITEMS, (PySem.W.mg_of X G y_MOST_ITEMS), t_RANGE, (PySem.W.mg_of X G y_RANGE)⟩ : Tx K mg)⟩
end
end Lw
open PySem PySem.W PyProof.Rows
set_option maxHeartbeats 0 in
theorem PySem.Challenge.cw_rangeclicks_k19_whole_click_lists_joined_holds : PySem.Challenge.rw_rangeclicks_k19_whole_click_lists_joined.Holds := by
  w_on; o_law; k_head; (case hw => w_witness2)
  k_fill
  refine Dx.law_walk (l := PySem.Challenge.rw_rangeclicks_k19_whole_click_lists_joined) (n := 63) (k := 10) (x := "_law_script") (sp := fun w => Dx.SpOf (Dx.fmLaw _) Lw.mlaw_p Lw.mlaw) rfl (by decide) rfl ⟨⟨rfl, by decide, by decide⟩, rfl⟩ (fun w h Y => PySem.W.kIn_of Y) ?F (fun _ _ _ ns hl hb hS => Dx.law_sp hS (Nat.le_trans hl (by decide)) (Lw.law_pre ns hl hb) (Lw.law_true ns hl hb))
  case F =>
    intro w mg fa h KX G hmg
    refine' Lw.all_mk KX G hmg ?a33 ?l33 ?c33 ?k33 ?a31 ?l31 ?c31 ?k31 ?a32 ?l32 ?c32 ?k32 ?a34 ?l34 ?c34 ?k34 ?a36 ?l36 ?c36 ?k36 ?a38 ?l38 ?c38 ?k38 ?a35 ?l35 ?c35 ?k35 ?a37 ?l37 ?c37 ?k37 ?a8 ?l8 ?c8 ?k8 ?a9 ?l9 ?c9 ?k9 ?a10 ?l10 ?c10 ?k10 ?a11 ?l11 ?c11 ?k11 ?a12 ?l12 ?c12 ?k12 ?a21 ?l21 ?c21 ?k21 ?a22 ?l22 ?c22 ?k22 ?a18 ?l18 ?c18 ?k18 ?a19 ?l19 ?c19 ?k19 ?a20 ?l20 ?c20 ?k20 ?a13 ?l13 ?c13 ?k13 ?a14 ?l14 ?c14 ?k14 ?a24 ?l24 ?c24 ?k24 ?a23 ?l23 ?c23 ?k23 ?a25 ?l25 ?c25 ?k25 ?a26 ?l26 ?c26 ?k26 ?a27 ?l27 ?c27 ?k27 ?a28 ?l28 ?c28 ?k28 ?a29 ?l29 ?c29 ?k29 ?a39 ?l39 ?c39 ?k39 ?a40 ?l40 ?c40 ?k40 ?a41 ?l41 ?c41 ?k41 ?z_all ?z_any ?z_bool ?z_enumerate ?z_int ?z_isinstance ?z_len ?z_list ?z_max ?z_min ?z_range ?z_sorted ?z_tuple ?z_zip ?y_CLICK ?y_MOST_ITEMS ?y_RANGE
    (case a33 => k_is); (case l33 => k_is); (case c33 => k_is); (case k33 => k_is); (case a31 => k_is); (case l31 => k_is); (case c31 => k_is); (case k31 => k_is); (case a32 => k_is); (case l32 => k_is); (case c32 => k_is); (case k32 => k_is); (case a34 => k_is); (case l34 => k_is); (case c34 => k_is); (case k34 => k_is); (case a36 => k_is); (case l36 => k_is); (case c36 => k_is); (case k36 => k_is); (case a38 => k_is); (case l38 => k_is); (case c38 => k_is); (case k38 => k_is); (case a35 => k_is); (case l35 => k_is); (case c35 => k_is); (case k35 => k_is); (case a37 => k_is); (case l37 => k_is); (case c37 => k_is); (case k37 => k_is); (case a8 => k_is); (case l8 => k_is); (case c8 => k_is); (case k8 => k_is); (case a9 => k_is); (case l9 => k_is); (case c9 => k_is); (case k9 => k_is); (case a10 => k_is); (case l10 => k_is); (case c10 => k_is); (case k10 => k_is); (case a11 => k_is); (case l11 => k_is); (case c11 => k_is); (case k11 => k_is); (case a12 => k_is); (case l12 => k_is); (case c12 => k_is); (case k12 => k_is); (case a21 => k_is); (case l21 => k_is); (case c21 => k_is); (case k21 => k_is); (case a22 => k_is); (case l22 => k_is); (case c22 => k_is); (case k22 => k_is); (case a18 => k_is); (case l18 => k_is); (case c18 => k_is); (case k18 => k_is); (case a19 => k_is); (case l19 => k_is); (case c19 => k_is); (case k19 => k_is); (case a20 => k_is); (case l20 => k_is); (case c20 => k_is); (case k20 => k_is); (case a13 => k_is); (case l13 => k_is); (case c13 => k_is); (case k13 => k_is); (case a14 => k_is); (case l14 => k_is); (case c14 => k_is); (case k14 => k_is); (case a24 => k_is); (case l24 => k_is); (case c24 => k_is); (case k24 => k_is); (case a23 => k_is); (case l23 => k_is); (case c23 => k_is); (case k23 => k_is); (case a25 => k_is); (case l25 => k_is); (case c25 => k_is); (case k25 => k_is); (case a26 => k_is); (case l26 => k_is); (case c26 => k_is); (case k26 => k_is); (case a27 => k_is); (case l27 => k_is); (case c27 => k_is); (case k27 => k_is); (case a28 => k_is); (case l28 => k_is); (case c28 => k_is); (case k28 => k_is); (case a29 => k_is); (case l29 => k_is); (case c29 => k_is); (case k29 => k_is); (case a39 => k_is); (case l39 => k_is); (case c39 => k_is); (case k39 => k_is); (case a40 => k_is); (case l40 => k_is); (case c40 => k_is); (case k40 => k_is); (case a41 => k_is); (case l41 => k_is); (case c41 => k_is); (case k41 => k_is); (case z_all => k_is); (case z_any => k_is); (case z_bool => k_is); (case z_enumerate => k_is); (case z_int => k_is); (case z_isinstance => k_is); (case z_len => k_is); (case z_list => k_is); (case z_max => k_is); (case z_min => k_is); (case z_range => k_is); (case z_sorted => k_is); (case z_tuple => k_is); (case z_zip => k_is); (case y_CLICK => k_is); (case y_MOST_ITEMS => k_is); (case y_RANGE => k_is)

