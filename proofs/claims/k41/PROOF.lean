import PyProof.Rows.All
import Wide.All
import OpenK.AllK
import Wide.FinOn
import HandS.ForMost
import HandS.EndBits
import HandS.Style
import HandS.IsInst
import HandS.Wide
import HandS.SortInts
import HandS.SetFor
import HandS.Deep
import HandS.Zip
import HandS.TryOnly
import HandS.Conv
import PyProof.LongRange
import HandS.Text
import PyProof.StrOps2
import HandS.Set
import HandS.Strs
import PyProof.Rows.SetFrom
import HandS.DictComp
import PyProof.Draws
import PyProof.EnumMake
import PyProof.StrLawsRepr
import HandS.TupMul
import KE.KDictPairs
import HandS.Dict
import KE.KBits
import HandS.WideMore
import PyProof.ReprReads
import PyProof.Rows.RegStrFacts
import PySem.Challenge.RW_rangeclicks_k41_whole_costs_of_related_s
set_option Elab.async false
set_option linter.all false
set_option maxRecDepth 100000
set_option autoImplicit false
/-! Dx, part A: data with Lean types over the abstract heap; the contexts; what an expression is worth. -/
namespace Dx
open PySem PySem.Spec PyProof.Rows L2

/-! ### types of data -/
structure Ty (K : PySem.W.Frag) where
  α : Type
  rep : Hp → V → α → Prop
  mono : ∀ {F F' : Hp} {v : V} {x : α}, Same F F' → rep F v x → rep F' v x
/-- what stands for the same tuples stands for the same data: no list is read -/
def LF {K : PySem.W.Frag} (τ : Ty K) : Prop := ∀ F F' v x, (∀ a xs, F a = some (.tup xs) → F' a = some (.tup xs)) → τ.rep F v x → τ.rep F' v x
/-- an object that is owned: told by its content -/
structure OTy (K : PySem.W.Frag) where
  τ : Ty K
  own : Hp → HO → τ.α → Prop
  mono : ∀ {F F' : Hp} {u : HO} {x : τ.α}, Same F F' → own F u x → own F' u x
  frz : ∀ {F : Hp} {a : Addr} {u : HO} {x : τ.α}, own F u x → F a = some u → τ.rep F (.ref a) x
  obj : ∀ {F : Hp} {u : HO} {x : τ.α}, own F u x → ∀ xs, u ≠ .tup xs
def LFo {K : PySem.W.Frag} (ω : OTy K) : Prop := ∀ F F' u x, (∀ a xs, F a = some (.tup xs) → F' a = some (.tup xs)) → ω.own F u x → ω.own F' u x

section
variable {K : PySem.W.Frag}
abbrev tInt (K : PySem.W.Frag) : Ty K := ⟨Int, fun _ v x => v = .int x, fun _ h => h⟩
abbrev tBool (K : PySem.W.Frag) : Ty K := ⟨Bool, fun _ v x => v = .bl x, fun _ h => h⟩
abbrev tStr (K : PySem.W.Frag) : Ty K := ⟨Str, fun _ v x => v = .str x ∧ PyData.strOk x = true, fun _ h => h⟩
/-- a text of which nothing more is known (a repr) -/
abbrev tTxt (K : PySem.W.Frag) : Ty K := ⟨Str, fun _ v x => v = .str x, fun _ h => h⟩
abbrev tNone (K : PySem.W.Frag) : Ty K := ⟨Unit, fun _ v _ => v = .non, fun _ h => h⟩
/-- data or None -/
abbrev tOpt (τ : Ty K) : Ty K := ⟨Option τ.α, fun F v x => match x with
  | none => v = .non
  | some y => v ≠ .non ∧ τ.rep F v y, fun {_ _ _ x} h r => match x, r with
  | none, r => r
  | some _, r => ⟨r.1, τ.mono h r.2⟩⟩
theorem paired_mono {α β : Type} {R R' : α → β → Prop} (h : ∀ a b, R a b → R' a b) : ∀ {xs : List α} {ys : List β}, Paired R xs ys → Paired R' xs ys
  | _, _, .nil => .nil
  | _, _, .cons r t => .cons (h _ _ r) (paired_mono h t)
theorem sq_mono {F F' : Hp} {a : Addr} {vs : List V} (h : Same F F') (r : SqL K F a vs) : SqL K F' a vs := h.seq r
abbrev tList (τ : Ty K) : Ty K := ⟨List τ.α, fun F v xs => ∃ a vs, v = .ref a ∧ F a = some (.lst vs) ∧ Paired (τ.rep F) vs xs ∧ xs.length ≤ sizeLine,
  fun h ⟨a, vs, e, q, p, z⟩ => ⟨a, vs, e, h _ _ q, paired_mono (fun _ _ r => τ.mono h r) p, z⟩⟩
/-- the script: a list of ints that may be known to the object or to the module -/
abbrev tScr (K : PySem.W.Frag) : Ty K := ⟨List Int, fun F v xs => ∃ a, v = .ref a ∧ SqL K F a (xs.map V.int) ∧ xs.length ≤ sizeLine, fun h ⟨a, e, q, z⟩ => ⟨a, e, sq_mono h q, z⟩⟩
/-- what is read as a list -/
def LL (L τ : Ty K) (to : L.α → List τ.α) : Prop := ∀ {F : Hp} {v : V} {x : L.α}, L.rep F v x → ∃ a vs, v = .ref a ∧ SqL K F a vs ∧ Paired (τ.rep F) vs (to x) ∧ (to x).length ≤ sizeLine
theorem paired_map {α β γ : Type} {R : α → γ → Prop} {f : β → α} {g : β → γ} (h : ∀ b, R (f b) (g b)) : ∀ xs : List β, Paired R (xs.map f) (xs.map g)
  | [] => .nil
  | x :: xs => .cons (h x) (paired_map h xs)
theorem ll_list {τ : Ty K} : LL (tList τ) τ (fun x => x) := fun ⟨a, vs, e, q, p, z⟩ => ⟨a, vs, e, .inl (.inl q), p, z⟩
theorem ll_scr : LL (tScr K) (tInt K) (fun x => x) := fun {F v x} ⟨a, e, q, z⟩ => ⟨a, _, e, q, by
  have := paired_map (R := (tInt K).rep F) (f := V.int) (g := fun (i : Int) => i) (fun _ => rfl) x
  rwa [List.map_id'] at this, z⟩
/-- the product of carriers: of arguments, of a tuple's items -/
def HL : List (Ty K) → Type
  | [] => Unit
  | [τ] => τ.α
  | τ :: σ :: ts => τ.α × HL (σ :: ts)
def RepAll (F : Hp) : (ts : List (Ty K)) → List V → HL ts → Prop
  | [], vs, _ => vs = []
  | [τ], vs, x => ∃ v, vs = [v] ∧ τ.rep F v x
  | τ :: σ :: ts, vs, x => ∃ v r, vs = v :: r ∧ τ.rep F v x.1 ∧ RepAll F (σ :: ts) r x.2
theorem RepAll.mono {F F' : Hp} (h : Same F F') : ∀ {ts : List (Ty K)} {vs : List V} {x : HL ts}, RepAll F ts vs x → RepAll F' ts vs x
  | [], _, _, r => r
  | [τ], _, _, ⟨v, e, r⟩ => ⟨v, e, τ.mono h r⟩
  | τ :: σ :: ts, _, _, ⟨v, r, e, r1, r2⟩ => ⟨v, r, e, τ.mono h r1, RepAll.mono h r2⟩
theorem RepAll.length {F : Hp} : ∀ {ts : List (Ty K)} {vs : List V} {x : HL ts}, RepAll F ts vs x → vs.length = ts.length
  | [], _, _, r => by rw [show _ = [] from r]; rfl
  | [τ], _, _, ⟨v, e, r⟩ => by rw [e]; rfl
  | τ :: σ :: ts, _, _, ⟨v, r, e, r1, r2⟩ => by rw [e, List.length_cons, RepAll.length r2]; rfl
/-- a tuple of known length -/
abbrev tTp (ts : List (Ty K)) : Ty K := ⟨HL ts, fun F v x => ∃ a vs, v = .ref a ∧ F a = some (.tup vs) ∧ RepAll F ts vs x,
  fun h ⟨a, vs, e, q, r⟩ => ⟨a, vs, e, h _ _ q, r.mono h⟩⟩
/-- a list that is owned -/
abbrev oList (τ : Ty K) : OTy K where
  τ := tList τ
  own := fun F u xs => ∃ vs, u = .lst vs ∧ Paired (τ.rep F) vs xs ∧ xs.length ≤ sizeLine
  mono := fun h ⟨vs, e, p, z⟩ => ⟨vs, e, paired_mono (fun _ _ r => τ.mono h r) p, z⟩
  frz := fun {F a u x} ⟨vs, e, p, z⟩ q => ⟨a, vs, rfl, e ▸ q, p, z⟩
  obj := fun ⟨vs, e, _⟩ xs z => by rw [e] at z; cases z

theorem lf_int : LF (tInt K) := fun _ _ _ _ _ r => r
theorem lf_bool : LF (tBool K) := fun _ _ _ _ _ r => r
theorem lf_str : LF (tStr K) := fun _ _ _ _ _ r => r
theorem lf_txt : LF (tTxt K) := fun _ _ _ _ _ r => r
theorem lf_none : LF (tNone K) := fun _ _ _ _ _ r => r
theorem lf_opt {τ : Ty K} (h : LF τ) : LF (tOpt τ) := fun F F' v x k r => by
  cases x with
  | none => exact r
  | some y => exact ⟨r.1, h F F' v y k r.2⟩
theorem lf_all : ∀ {ts : List (Ty K)}, (∀ τ ∈ ts, LF τ) → ∀ (F F' : Hp) (vs : List V) (x : HL ts), (∀ a xs, F a = some (.tup xs) → F' a = some (.tup xs)) → RepAll F ts vs x → RepAll F' ts vs x
  | [], _, _, _, _, _, _, r => r
  | [τ], h, F, F', _, _, k, ⟨v, e, r⟩ => ⟨v, e, h τ (by simp) F F' _ _ k r⟩
  | τ :: σ :: ts, h, F, F', _, _, k, ⟨v, r, e, r1, r2⟩ => ⟨v, r, e, h τ (by simp) F F' _ _ k r1, lf_all (fun t m => h t (List.mem_cons_of_mem _ m)) F F' _ _ k r2⟩
theorem lf_tup {ts : List (Ty K)} (h : ∀ τ ∈ ts, LF τ) : LF (tTp ts) := fun F F' v x k ⟨a, vs, e, q, r⟩ => ⟨a, vs, e, k a vs q, lf_all h F F' vs x k r⟩
theorem lf_nil : ∀ τ ∈ ([] : List (Ty K)), LF τ := fun _ h => nomatch h
theorem lf_cons {τ : Ty K} {ts : List (Ty K)} (h : LF τ) (t : ∀ σ ∈ ts, LF σ) : ∀ σ ∈ τ :: ts, LF σ := fun σ m => (List.mem_cons.mp m).elim (fun e => e ▸ h) (t σ)
theorem lfo_list {τ : Ty K} (h : LF τ) : LFo (oList τ) := fun F F' _ _ k ⟨vs, e, p, z⟩ => ⟨vs, e, paired_mono (fun a b r => h F F' a b k r) p, z⟩
end

/-! ### contexts -/
/-- a local name: not known; data that stays; an object of one's own -/
inductive Slot (K : PySem.W.Frag) (S : Type) : Type 1
  | dead
  | fz (τ : Ty K) (f : S → τ.α)
  | ow (ω : OTy K) (f : S → ω.τ.α)
abbrev Ctx (K : PySem.W.Frag) (S : Type) := List (Slot K S)
section
variable {K : PySem.W.Frag} {S T : Type}
def Slot.comap (g : T → S) : Slot K S → Slot K T
  | .dead => .dead
  | .fz τ f => .fz τ fun t => f (g t)
  | .ow ω f => .ow ω fun t => f (g t)
abbrev Ctx.comap (g : T → S) (Δ : Ctx K S) : Ctx K T := Δ.map (Slot.comap g)
def SlotOk (F H : Hp) (s : S) (o : Option V) : Slot K S → Prop
  | .dead => True
  | .fz τ f => ∃ v, o = some v ∧ τ.rep F v (f s)
  | .ow ω f => ∃ p u, o = some (.ref p) ∧ F p = none ∧ H p = some u ∧ ω.own F u (f s)
structure Holds (Δ : Ctx K S) (s : S) (F H : Hp) (σ : L2.St) : Prop where
  len : σ.length = Δ.length
  at_ : ∀ (i : Nat) (sl : Slot K S) (o : Option V), Δ[i]? = some sl → σ[i]? = some o → SlotOk F H s o sl
  sep : ∀ (i j : Nat) (ω ω' : OTy K) (f : S → ω.τ.α) (f' : S → ω'.τ.α) (p : Addr), i ≠ j → Δ[i]? = some (.ow ω f) → Δ[j]? = some (.ow ω' f') → σ[i]? = some (some (.ref p)) → σ[j]? ≠ some (some (.ref p))
/-- the addresses that the slots ms hold -/
def MsAt (ms : List Nat) (σ : L2.St) (a : Addr) : Prop := ∃ i ∈ ms, σ[i]? = some (some (.ref a))
structure Gr (B : Addr → Prop) (F H F' H' : Hp) : Prop where
  ff : Same F F'
  fh : Same F' H'
  fresh : ∀ a o, F' a = some o → F a = some o ∨ H a = none
  keep : ∀ a o, H a = some o → ¬ B a → H' a = some o
  dom : ∀ a, H' a = none → H a = none
def No : Addr → Prop := fun _ => False
theorem msAt_nil {σ : L2.St} : MsAt [] σ = No := by
  funext a
  exact propext ⟨fun ⟨_, h, _⟩ => False.elim (by cases h), fun h => False.elim h⟩
section
variable {B B' : Addr → Prop} {F H F1 H1 F2 H2 : Hp}
theorem Gr.refl (h : Same F H) : Gr B F H F H := ⟨Same.refl F, h, fun _ _ h => .inl h, fun _ _ h _ => h, fun _ h => h⟩
theorem Gr.trans (a : Gr B F H F1 H1) (b : Gr B F1 H1 F2 H2) : Gr B F H F2 H2 where
  ff := a.ff.trans b.ff
  fh := b.fh
  fresh := fun x o h => (b.fresh x o h).elim (a.fresh x o) fun n => .inr (a.dom x n)
  keep := fun x o h n => b.keep x o (a.keep x o h n) n
  dom := fun x h => a.dom x (b.dom x h)
theorem Gr.mono (h : ∀ a, B a → B' a) (g : Gr B F H F1 H1) : Gr B' F H F1 H1 := ⟨g.ff, g.fh, g.fresh, fun a o e n => g.keep a o e fun z => n (h a z), g.dom⟩
theorem Gr.same (g : Gr No F H F1 H1) : Same H H1 := fun a o h => g.keep a o h fun z => z
theorem Gr.of0 (g : Gr No F H F1 H1) : Gr B F H F1 H1 := g.mono fun _ z => z.elim
theorem gr_mk (s : Same H H1) (ff : Same F F1) (fh : Same F1 H1) (fresh : ∀ a o, F1 a = some o → F a = some o ∨ H a = none) : Gr No F H F1 H1 := ⟨ff, fh, fresh, fun a o h _ => s a o h, fun _ h => s.free h⟩
theorem same_new {G : Hp} {p : Addr} {o : HO} (h : G p = none) : Same G (upd G p o) := fun a u e => by
  rw [upd_ne (ne_of_none e h)]
  exact e
theorem upd_mono {G G' : Hp} {p : Addr} {o : HO} (h : Same G G') : Same (upd G p o) (upd G' p o) := fun a u e => by
  by_cases x : a = p
  · subst x; rw [upd_same] at e ⊢; exact e
  · rw [upd_ne x] at e ⊢; exact h a u e
/-- a new object, frozen at once -/
theorem Gr.new {p : Addr} {o : HO} (h : Same F H) (n : H p = none) : Gr No F H (upd F p o) (upd H p o) :=
  gr_mk (same_new n) (same_new (h.free n)) (upd_mono h) fun a u e => by
    by_cases x : a = p
    · subst x; exact .inr n
    · rw [upd_ne x] at e; exact .inl e
/-- a new object of one's own -/
theorem Gr.newO {p : Addr} {o : HO} (h : Same F H) (n : H p = none) : Gr No F H F (upd H p o) :=
  gr_mk (same_new n) (Same.refl F) (h.trans (same_new n)) fun a u e => .inl e
end
theorem Holds.grow {Δ : Ctx K S} {s : S} {F H F' H' : Hp} {σ : L2.St} (h : Holds Δ s F H σ) (g : Gr No F H F' H') : Holds Δ s F' H' σ where
  len := h.len
  at_ := fun i sl o e1 e2 => by
    have r := h.at_ i sl o e1 e2
    cases sl with
    | dead => trivial
    | fz τ f => obtain ⟨v, e, q⟩ := r; exact ⟨v, e, τ.mono g.ff q⟩
    | ow ω f =>
      obtain ⟨p, u, e, n, hp, q⟩ := r
      refine ⟨p, u, e, ?_, g.same _ _ hp, ω.mono g.ff q⟩
      cases x : F' p with
      | none => rfl
      | some o' =>
        rcases g.fresh p o' x with z | z
        · rw [n] at z; cases z
        · rw [hp] at z; cases z
  sep := h.sep
/-- the slots outside of ms are told as before -/
structure Diff (ms : List Nat) (Δ Δ1 : Ctx K S) : Prop where
  len : Δ1.length = Δ.length
  out : ∀ k, k ∉ ms → Δ1[k]? = Δ[k]?
  own : ∀ (k : Nat) (ω : OTy K) (f : S → ω.τ.α), Δ1[k]? = some (Slot.ow ω f) → ∃ (ω' : OTy K) (f' : S → ω'.τ.α), Δ[k]? = some (Slot.ow ω' f')
theorem Diff.refl {ms : List Nat} {Δ : Ctx K S} : Diff ms Δ Δ := ⟨rfl, fun _ _ => rfl, fun _ _ _ h => ⟨_, _, h⟩⟩
theorem Diff.trans {m1 m2 : List Nat} {Δ Δ1 Δ2 : Ctx K S} (a : Diff m1 Δ Δ1) (b : Diff m2 Δ1 Δ2) : Diff (m1 ++ m2) Δ Δ2 :=
  ⟨b.len.trans a.len, fun k h => (b.out k fun z => h (List.mem_append_right _ z)).trans (a.out k fun z => h (List.mem_append_left _ z)),
    fun k ω f h => let ⟨ω', f', h'⟩ := b.own k ω f h; a.own k ω' f' h'⟩
/-- an own slot's object stood there -/
theorem Diff.was {ms : List Nat} {Δ Δ1 : Ctx K S} (d : Diff ms Δ Δ1) {s : S} {F H : Hp} {σ : L2.St} (hh : Holds Δ s F H σ) {k : Nat} {ω : OTy K} {f : S → ω.τ.α} {p : Addr} (h : Δ1[k]? = some (.ow ω f)) (e : σ[k]? = some (some (.ref p))) : F p = none ∧ H p ≠ none := by
  obtain ⟨ω', f', h'⟩ := d.own k ω f h
  obtain ⟨q, u, e', n, hp, _⟩ := hh.at_ k _ _ h' e
  cases e'
  exact ⟨n, by rw [hp]; exact fun z => nomatch z⟩
def Conj : List (S → Prop) → S → Prop
  | [], _ => True
  | c :: cs, s => c s ∧ Conj cs s
theorem conj_app {s : S} : ∀ {a b : List (S → Prop)}, Conj (a ++ b) s → Conj a s ∧ Conj b s
  | [], _, h => ⟨trivial, h⟩
  | c :: cs, b, h => by
    obtain ⟨h1, h2⟩ := h
    obtain ⟨h3, h4⟩ := conj_app (a := cs) h2
    exact ⟨⟨h1, h3⟩, h4⟩
theorem msAt_l {m1 m2 : List Nat} {σ : L2.St} : ∀ a, MsAt m1 σ a → MsAt (m1 ++ m2) σ a := fun a ⟨i, h, e⟩ => ⟨i, List.mem_append_left _ h, e⟩
theorem msAt_r {m1 m2 : List Nat} {σ : L2.St} : ∀ a, MsAt m2 σ a → MsAt (m1 ++ m2) σ a := fun a ⟨i, h, e⟩ => ⟨i, List.mem_append_right _ h, e⟩

/-! ### what an expression, a test, an argument list is worth -/
def DX (K : PySem.W.Frag) (X : Cx) (Δ : Ctx K S) (e : Expr) (τ : Ty K) (ms : List Nat) (cs : List (S → Prop)) (Δ1 : Ctx K S) (f : S → τ.α) (t : TE) : Prop :=
  Diff ms Δ Δ1 ∧ PE X e t ∧ ∀ s F H σ, Holds Δ s F H σ → Same F H → Conj cs s → ∀ Q : VK, (∀ v F' H', Gr (MsAt ms σ) F H F' H' → Holds Δ1 s F' H' σ → τ.rep F' v (f s) → Q v H') → t σ H Q
/-- a new object of one's own -/
def DO (K : PySem.W.Frag) (X : Cx) (Δ : Ctx K S) (e : Expr) (ω : OTy K) (ms : List Nat) (cs : List (S → Prop)) (Δ1 : Ctx K S) (f : S → ω.τ.α) (t : TE) : Prop :=
  Diff ms Δ Δ1 ∧ PE X e t ∧ ∀ s F H σ, Holds Δ s F H σ → Same F H → Conj cs s → ∀ Q : VK, (∀ p u F' H', Gr (MsAt ms σ) F H F' H' → Holds Δ1 s F' H' σ → H p = none → F' p = none → H' p = some u → ω.own F' u (f s) → Q (.ref p) H') → t σ H Q
def DT (K : PySem.W.Frag) (X : Cx) (Δ : Ctx K S) (e : Expr) (ms : List Nat) (cs : List (S → Prop)) (Δ1 : Ctx K S) (f : S → Bool) (t : TT) : Prop :=
  Diff ms Δ Δ1 ∧ PT X e t ∧ ∀ s F H σ, Holds Δ s F H σ → Same F H → Conj cs s → ∀ Q : Bool → Hp → Prop, (∀ F' H', Gr (MsAt ms σ) F H F' H' → Holds Δ1 s F' H' σ → Q (f s) H') → t σ H Q
/-- a test whatever its whole is -/
def DW (K : PySem.W.Frag) (X : Cx) (Δ : Ctx K S) (e : Expr) (ms : List Nat) (cs : List (S → Prop)) (Δ1 : Ctx K S) (f : S → Bool) (t : TT) : Prop :=
  Diff ms Δ Δ1 ∧ PW X e t ∧ ∀ s F H σ, Holds Δ s F H σ → Same F H → Conj cs s → ∀ Q : Bool → Hp → Prop, (∀ F' H', Gr (MsAt ms σ) F H F' H' → Holds Δ1 s F' H' σ → Q (f s) H') → t σ H Q
end
section
variable {K : PySem.W.Frag} {X : Cx} {S : Type} {Δ Δ1 Δ2 Δ3 : Ctx K S} {e a b c : Expr} {pos p' : Pos} {τ τ1 τ2 : Ty K} {ω : OTy K} {m1 m2 m3 ms : List Nat} {c1 c2 c3 cs : List (S → Prop)}
theorem DW.t {f : S → Bool} {t : TT} (h : DW K X Δ e ms cs Δ1 f t) : DT K X Δ e ms cs Δ1 f t := ⟨h.1, h.2.1.pt, h.2.2⟩

/-! #### names and constants -/
theorem DX.var {i : Nat} {x : Str} {f : S → τ.α} (h : Δ[i]? = some (.fz τ f)) (hN : X.N[i]? = some x := by rfl) (hv : Vis X.env.scope x := by first | exact Or.inl rfl | exact Or.inr (Or.inl rfl) | exact Or.inr (Or.inr rfl)) (hd : (x == ("__debug__" : Str)) = false := by decide)
    (hcd : (x == ("__classdict__" : Str)) = false := by decide) : DX K X Δ (.Name x pos) τ [] [] Δ f (tVar i) := by
  refine ⟨Diff.refl, pe_var hN hv hd hcd, fun s F H σ hh sm _ Q q => ?_⟩
  have hi : i < σ.length := by rw [hh.len]; exact (List.getElem?_eq_some_iff.mp h).1
  obtain ⟨o, ho⟩ : ∃ o, σ[i]? = some o := ⟨_, List.getElem?_eq_getElem hi⟩
  obtain ⟨v, e, r⟩ := hh.at_ i _ o h ho
  exact ⟨v, by rw [ho, e], q v F H (Gr.refl sm) hh r⟩
theorem DX.cst {v : V} {x : τ.α} (hp : PE X e (tC v)) (hr : ∀ F, τ.rep F v x) : DX K X Δ e τ [] [] Δ (fun _ => x) (tC v) :=
  ⟨Diff.refl, hp, fun _ F H _ hh sm _ _ q => q v F H (Gr.refl sm) hh (hr F)⟩
theorem DX.int {i : Int} {j : Nat} : DX K X Δ (.Constant (.int i) j pos) (tInt K) [] [] Δ (fun _ => i) (tC (.int i)) := DX.cst pe_int fun _ => rfl
theorem DX.tru {j : Nat} : DX K X Δ (.Constant (.bool true) j pos) (tBool K) [] [] Δ (fun _ => true) (tC (.bl true)) := DX.cst pe_bl fun _ => rfl
theorem DX.fls {j : Nat} : DX K X Δ (.Constant (.bool false) j pos) (tBool K) [] [] Δ (fun _ => false) (tC (.bl false)) := DX.cst pe_bl fun _ => rfl
theorem DX.str {x : Str} {j : Nat} (h : PyData.strOk x = true := by decide) : DX K X Δ (.Constant (.str x) j pos) (tStr K) [] [] Δ (fun _ => x) (tC (.str x)) := DX.cst pe_str fun _ => ⟨rfl, h⟩
theorem DX.non {j : Nat} : DX K X Δ (.Constant .none j pos) (tNone K) [] [] Δ (fun _ => ()) (tC .non) := DX.cst pe_non fun _ => rfl
theorem DX.nonO {j : Nat} : DX K X Δ (.Constant .none j pos) (tOpt τ) [] [] Δ (fun _ => none) (tC .non) := DX.cst pe_non fun _ => rfl
/-- a module's constant -/
theorem DX.glbI {x : Str} {i : Int} {t : Tok} (hg : Gl X x) (hm : X.mg x = some (.int i t)) (hd : (x == ("__debug__" : Str)) = false := by decide) : DX K X Δ (.Name x pos) (tInt K) [] [] Δ (fun _ => i) (tC (.int i)) := DX.cst (v := .int i) (pe_glob hg hm ⟨t, rfl⟩ hd) fun _ => rfl
theorem DX.glbS {x : Str} {i : Str} {t : Tok} (hg : Gl X x) (hm : X.mg x = some (.str i t)) (hd : (x == ("__debug__" : Str)) = false := by decide) (h : PyData.strOk i = true := by decide) : DX K X Δ (.Name x pos) (tStr K) [] [] Δ (fun _ => i) (tC (.str i)) := DX.cst (v := .str i) (pe_glob hg hm ⟨t, rfl⟩ hd) fun _ => ⟨rfl, h⟩

/-! #### turning one into another -/
/-- an object of one's own becomes data that stays -/
theorem DX.ofO {f : S → ω.τ.α} {t : TE} (h : DO K X Δ e ω ms cs Δ1 f t) : DX K X Δ e ω.τ ms cs Δ1 f t := by
  obtain ⟨d, ht, r⟩ := h
  refine ⟨d, ht, fun s F H σ hh sm hc Q q => r s F H σ hh sm hc Q fun p u F' H' g hh' hn fn hp ow => ?_⟩
  have s1 : Same F' (upd F' p u) := same_new fn
  have s2 : Same (upd F' p u) H' := fun a o e => by
    by_cases x : a = p
    · subst x; rw [upd_same] at e; rw [hp]; exact e
    · rw [upd_ne x] at e; exact g.fh a o e
  refine q _ (upd F' p u) H' ⟨g.ff.trans s1, s2, fun a o e => ?_, g.keep, g.dom⟩ ⟨hh'.len, fun i sl o e1 e2 => ?_, hh'.sep⟩ (ω.frz (ω.mono s1 ow) upd_same)
  · by_cases x : a = p
    · subst x; exact .inr hn
    · rw [upd_ne x] at e; exact g.fresh a o e
  · have r1 := hh'.at_ i sl o e1 e2
    cases sl with
    | dead => trivial
    | fz τ f => obtain ⟨v, e, q⟩ := r1; exact ⟨v, e, τ.mono s1 q⟩
    | ow ω2 f2 =>
      obtain ⟨p2, u2, e, n, hp2, q2⟩ := r1
      refine ⟨p2, u2, e, ?_, hp2, ω2.mono s1 q2⟩
      rw [upd_ne ?_]
      · exact n
      · intro z
        subst z
        subst e
        exact (d.was hh e1 e2).2 hn
end
end Dx

/-! Dx, part B: operators, comparisons, truth, displays, arguments. -/
namespace Dx
open PySem PySem.Spec PyProof.Rows L2

/-! ### data that is compared and shown -/
/-- a carrier as plain data: what it is, decidable equality, its depth -/
structure DF (α : Type) where
  toD : α → PyData
  dec : DecidableEq α
  n : Nat
abbrev DF.eq {α : Type} (d : DF α) (x y : α) : Bool := @decide (x = y) (d.dec x y)
def dfInt : DF Int := ⟨.int, inferInstance, 1⟩
def dfBool : DF Bool := ⟨.bool, inferInstance, 1⟩
def dfStr : DF Str := ⟨.str, inferInstance, 1⟩
def dfNone : DF Unit := ⟨fun _ => .none, inferInstance, 1⟩
def dfOpt {α : Type} (d : DF α) : DF (Option α) := ⟨fun | none => .none | some x => d.toD x, @Option.instDecidableEq α d.dec, max d.n 1⟩
def dfList {α : Type} (d : DF α) : DF (List α) := ⟨fun xs => .list (xs.map d.toD), @instDecidableEqList α d.dec, d.n + 1⟩
def dfT1 {α : Type} (d : DF α) : DF α := ⟨fun x => .tuple [d.toD x], d.dec, d.n + 1⟩
def dfT2 {α β : Type} (d : DF α) (e : DF β) : DF (α × β) := ⟨fun x => .tuple [d.toD x.1, e.toD x.2], @instDecidableEqProd α β d.dec e.dec, max d.n e.n + 1⟩
def dfT3 {α β γ : Type} (d : DF α) (e : DF β) (g : DF γ) : DF (α × β × γ) := ⟨fun x => .tuple [d.toD x.1, e.toD x.2.1, g.toD x.2.2], @instDecidableEqProd α (β × γ) d.dec (@instDecidableEqProd β γ e.dec g.dec), max d.n (max e.n g.n) + 1⟩
def dfT4 {α β γ δ : Type} (d : DF α) (e : DF β) (g : DF γ) (k : DF δ) : DF (α × β × γ × δ) := ⟨fun x => .tuple [d.toD x.1, e.toD x.2.1, g.toD x.2.2.1, k.toD x.2.2.2], @instDecidableEqProd α (β × γ × δ) d.dec (@instDecidableEqProd β (γ × δ) e.dec (@instDecidableEqProd γ δ g.dec k.dec)), max d.n (max e.n (max g.n k.n)) + 1⟩
/-- repr(x) is told: its ints are short, its text is not too long -/
def ShowOk {α : Type} (d : DF α) (x : α) : Prop := (d.toD x).showable = true ∧ (d.toD x).shown.length ≤ sizeLine
def reprOf {α : Type} (d : DF α) (x : α) : Str := (d.toD x).shown

/-- what is plain about it -/
structure PlainD {α : Type} (d : DF α) : Prop where
  dep : ∀ x, (d.toD x).depth ≤ d.n
  eqv : ∀ x y, PyData.eqv (d.toD x) (d.toD y) = d.eq x y
  nodict : ∀ x, (d.toD x).hasDict = false
theorem pd_int : PlainD dfInt := ⟨fun _ => Nat.zero_le _, fun x y => by simp [dfInt, PyData.eqv, DF.eq, Bool.beq_eq_decide_eq], fun _ => rfl⟩
theorem pd_bool : PlainD dfBool := ⟨fun _ => Nat.zero_le _, fun x y => by simp [dfBool, PyData.eqv, DF.eq, Bool.beq_eq_decide_eq], fun _ => rfl⟩
theorem pd_none : PlainD dfNone := ⟨fun _ => Nat.zero_le _, fun x y => by simp [dfNone, PyData.eqv, DF.eq], fun _ => rfl⟩
theorem pd_str : PlainD dfStr := ⟨fun _ => Nat.zero_le _, fun x y => by simp [dfStr, PyData.eqv, DF.eq, Bool.beq_eq_decide_eq], fun _ => rfl⟩
theorem dep_all {α : Type} {f : α → PyData} {n : Nat} (h : ∀ x, (f x).depth ≤ n) : ∀ xs : List α, PyData.depthAll (xs.map f) ≤ n
  | [] => Nat.zero_le _
  | x :: xs => by show max (PyData.depth (f x)) _ ≤ n; exact Nat.max_le.mpr ⟨h x, dep_all h xs⟩
theorem nod_all {α : Type} {f : α → PyData} (h : ∀ x, (f x).hasDict = false) : ∀ xs : List α, PyData.hasDictAll (xs.map f) = false
  | [] => rfl
  | x :: xs => by show (PyData.hasDict (f x) || _) = false; rw [h x, nod_all h xs]; rfl
theorem eqv_all {α : Type} (d : DF α) (h : ∀ x y, PyData.eqv (d.toD x) (d.toD y) = d.eq x y) : ∀ xs ys : List α, PyData.eqvAll (xs.map d.toD) (ys.map d.toD) = @decide (xs = ys) (@instDecidableEqList α d.dec xs ys)
  | [], [] => by simp [PyData.eqvAll]
  | [], y :: ys => by simp [PyData.eqvAll]
  | x :: xs, [] => by simp [PyData.eqvAll]
  | x :: xs, y :: ys => by
    have e := h x y
    have t := eqv_all d h xs ys
    simp only [List.map_cons, PyData.eqvAll, e, t, DF.eq]
    rw [Bool.eq_iff_iff]
    simp
theorem pd_list {α : Type} {d : DF α} (h : PlainD d) : PlainD (dfList d) := ⟨fun xs => Nat.succ_le_succ (dep_all h.dep xs), fun xs ys => eqv_all d h.eqv xs ys, fun xs => nod_all h.nodict xs⟩
/-- never None -/
def NotN {α : Type} (d : DF α) : Prop := ∀ x, PyData.eqv .none (d.toD x) = false ∧ PyData.eqv (d.toD x) .none = false
theorem nn_int : NotN dfInt := fun _ => ⟨by simp [dfInt, PyData.eqv], by simp [dfInt, PyData.eqv]⟩
theorem nn_list {α : Type} {d : DF α} : NotN (dfList d) := fun _ => ⟨by simp [dfList, PyData.eqv], by simp [dfList, PyData.eqv]⟩
theorem nn_t2 {α β : Type} {d : DF α} {e : DF β} : NotN (dfT2 d e) := fun _ => ⟨by simp [dfT2, PyData.eqv], by simp [dfT2, PyData.eqv]⟩
theorem pd_opt {α : Type} {d : DF α} (h : PlainD d) (hn : NotN d) : PlainD (dfOpt d) where
  dep := fun x => by cases x with
    | none => exact Nat.zero_le _
    | some y => exact Nat.le_trans (h.dep y) (Nat.le_max_left _ _)
  eqv := fun x y => by
    cases x with
    | none =>
      cases y with
      | none => simp [dfOpt, PyData.eqv, DF.eq]
      | some y => show PyData.eqv .none (d.toD y) = _; rw [(hn y).1]; simp [DF.eq]
    | some x =>
      cases y with
      | none => show PyData.eqv (d.toD x) .none = _; rw [(hn x).2]; simp [DF.eq]
      | some y => show PyData.eqv (d.toD x) (d.toD y) = _; rw [h.eqv x y]; simp [DF.eq]
  nodict := fun x => by cases x with
    | none => rfl
    | some y => exact h.nodict y
theorem pd_t1 {α : Type} {d : DF α} (h : PlainD d) : PlainD (dfT1 d) := ⟨fun x => by
    have := h.dep x
    simp only [dfT1, PyData.depth, PyData.depthAll]; omega, fun x y => by
    simp only [dfT1, PyData.eqv, PyData.eqvAll, h.eqv, Bool.and_true], fun x => by simp [dfT1, PyData.hasDict, PyData.hasDictAll, h.nodict]⟩
theorem pd_t2 {α β : Type} {d : DF α} {e : DF β} (h : PlainD d) (k : PlainD e) : PlainD (dfT2 d e) := ⟨fun x => by
    have := h.dep x.1
    have := k.dep x.2
    simp only [dfT2, PyData.depth, PyData.depthAll]; omega, fun x y => by
    simp only [dfT2, PyData.eqv, PyData.eqvAll, h.eqv, k.eqv, DF.eq, Bool.and_true]
    rw [Bool.eq_iff_iff]
    simp [Prod.ext_iff], fun x => by simp [dfT2, PyData.hasDict, PyData.hasDictAll, h.nodict, k.nodict]⟩
theorem pd_t3 {α β γ : Type} {d : DF α} {e : DF β} {g : DF γ} (h : PlainD d) (k : PlainD e) (l : PlainD g) : PlainD (dfT3 d e g) := ⟨fun x => by
    have := h.dep x.1
    have := k.dep x.2.1
    have := l.dep x.2.2
    simp only [dfT3, PyData.depth, PyData.depthAll]; omega, fun x y => by
    simp only [dfT3, PyData.eqv, PyData.eqvAll, h.eqv, k.eqv, l.eqv, DF.eq, Bool.and_true]
    rw [Bool.eq_iff_iff]
    simp [Prod.ext_iff], fun x => by simp [dfT3, PyData.hasDict, PyData.hasDictAll, h.nodict, k.nodict, l.nodict]⟩
theorem pd_t4 {α β γ δ : Type} {d : DF α} {e : DF β} {g : DF γ} {m : DF δ} (h : PlainD d) (k : PlainD e) (l : PlainD g) (o : PlainD m) : PlainD (dfT4 d e g m) := ⟨fun x => by
    have := h.dep x.1
    have := k.dep x.2.1
    have := l.dep x.2.2.1
    have := o.dep x.2.2.2
    simp only [dfT4, PyData.depth, PyData.depthAll]; omega, fun x y => by
    simp only [dfT4, PyData.eqv, PyData.eqvAll, h.eqv, k.eqv, l.eqv, o.eqv, DF.eq, Bool.and_true]
    rw [Bool.eq_iff_iff]
    simp [Prod.ext_iff], fun x => by simp [dfT4, PyData.hasDict, PyData.hasDictAll, h.nodict, k.nodict, l.nodict, o.nodict]⟩

/-- the data of a type is that plain data -/
structure Dat {K : PySem.W.Frag} (τ : Ty K) (d : DF τ.α) : Prop where
  dp : ∀ {F : Hp} {v : V} {x : τ.α}, τ.rep F v x → Dp K F v (d.toD x)
  lay : ∀ {F : Hp} {v : V} {x : τ.α}, τ.rep F v x → (d.toD x).canLay0 = true
  pl : PlainD d
section
variable {K : PySem.W.Frag}
theorem dat_int : Dat (tInt K) dfInt := ⟨fun r => by subst r; exact .int _, fun _ => rfl, pd_int⟩
theorem dat_bool : Dat (tBool K) dfBool := ⟨fun r => by subst r; exact .bl _, fun _ => rfl, pd_bool⟩
theorem dat_none : Dat (tNone K) dfNone := ⟨fun r => by rw [show _ = V.non from r]; exact .non, fun _ => rfl, pd_none⟩
theorem dat_str : Dat (tStr K) dfStr := ⟨fun r => by rw [r.1]; exact .str _, fun r => r.2, pd_str⟩
theorem dp_all {τ : Ty K} {d : DF τ.α} (h : Dat τ d) {F : Hp} : ∀ {vs : List V} {xs : List τ.α}, Paired (τ.rep F) vs xs → DpAll K F vs (xs.map d.toD) ∧ PyData.canLayAll0 (xs.map d.toD) = true
  | _, _, .nil => ⟨.nil, rfl⟩
  | _, _, .cons r t => ⟨.cons (h.dp r) (dp_all h t).1, by show (PyData.canLay0 _ && _) = true; rw [h.lay r, (dp_all h t).2]; rfl⟩
theorem dat_list {τ : Ty K} {d : DF τ.α} (h : Dat τ d) : Dat (tList τ) (dfList d) := ⟨fun ⟨a, vs, e, q, p, _⟩ => by
    rw [e]
    exact .lst (.inl (.inl q)) (dp_all h p).1, fun ⟨a, vs, e, q, p, _⟩ => (dp_all h p).2, pd_list h.pl⟩
theorem dpi_all {F : Hp} : ∀ xs : List Int, DpAll K F (xs.map V.int) (xs.map dfInt.toD)
  | [] => .nil
  | x :: xs => .cons (.int x) (dpi_all xs)
theorem layi_all : ∀ xs : List Int, PyData.canLayAll0 (xs.map dfInt.toD) = true
  | [] => rfl
  | x :: xs => layi_all xs
theorem dat_scr : Dat (tScr K) (dfList dfInt) := ⟨fun {F v x} ⟨a, e, q, _⟩ => by
    rw [e]
    exact .lst q (dpi_all x), fun {F v x} _ => layi_all x, pd_list pd_int⟩
theorem dat_opt {τ : Ty K} {d : DF τ.α} (h : Dat τ d) (hn : NotN d) : Dat (tOpt τ) (dfOpt d) where
  dp := fun {F v x} r => by
    cases x with
    | none => rw [show v = V.non from r]; exact .non
    | some y => exact h.dp r.2
  lay := fun {F v x} r => by cases x with
    | none => rfl
    | some y => exact h.lay r.2
  pl := pd_opt h.pl hn
theorem st_any {F : Hp} {a : Addr} {vs : List V} (h : F a = some (.tup vs)) : SqT K F a vs := .inl (.inl h)
theorem dat_t1 {τ1 : Ty K} {d : DF τ1.α} (h : Dat τ1 d) : Dat (tTp [τ1]) (dfT1 d) := ⟨fun ⟨a, vs, e, q, v, e2, r⟩ => by
    subst e e2
    exact .tup (st_any q) (.cons (h.dp r) .nil), fun ⟨a, vs, e, q, v, e2, r⟩ => by
    have := h.lay r
    show (PyData.canLay0 _ && true) = true
    rw [this]; rfl, pd_t1 h.pl⟩
theorem dat_t2 {τ1 τ2 : Ty K} {d1 : DF τ1.α} {d2 : DF τ2.α} (h1 : Dat τ1 d1) (h2 : Dat τ2 d2) : Dat (tTp [τ1, τ2]) (dfT2 d1 d2) := ⟨fun ⟨a, vs, e, q, v, r, e2, r1, w, e3, r2⟩ => by
    subst e e3 e2
    exact .tup (st_any q) (.cons (h1.dp r1) (.cons (h2.dp r2) .nil)), fun ⟨a, vs, e, q, v, r, e2, r1, w, e3, r2⟩ => by
    show (PyData.canLay0 _ && (PyData.canLay0 _ && true)) = true
    rw [h1.lay r1, h2.lay r2]; rfl, pd_t2 h1.pl h2.pl⟩
theorem dat_t3 {τ1 τ2 τ3 : Ty K} {d1 : DF τ1.α} {d2 : DF τ2.α} {d3 : DF τ3.α} (h1 : Dat τ1 d1) (h2 : Dat τ2 d2) (h3 : Dat τ3 d3) : Dat (tTp [τ1, τ2, τ3]) (dfT3 d1 d2 d3) := ⟨fun ⟨a, vs, e, q, v, r, e2, r1, v2, r', e4, r2, w, e3, r3⟩ => by
    subst e e3 e4 e2
    exact .tup (st_any q) (.cons (h1.dp r1) (.cons (h2.dp r2) (.cons (h3.dp r3) .nil))), fun ⟨a, vs, e, q, v, r, e2, r1, v2, r', e4, r2, w, e3, r3⟩ => by
    show (PyData.canLay0 _ && (PyData.canLay0 _ && (PyData.canLay0 _ && true))) = true
    rw [h1.lay r1, h2.lay r2, h3.lay r3]; rfl, pd_t3 h1.pl h2.pl h3.pl⟩
theorem dat_t4 {τ1 τ2 τ3 τ4 : Ty K} {d1 : DF τ1.α} {d2 : DF τ2.α} {d3 : DF τ3.α} {d4 : DF τ4.α} (h1 : Dat τ1 d1) (h2 : Dat τ2 d2) (h3 : Dat τ3 d3) (h4 : Dat τ4 d4) : Dat (tTp [τ1, τ2, τ3, τ4]) (dfT4 d1 d2 d3 d4) := ⟨fun ⟨a, vs, e, q, v, r, e2, r1, v2, r', e4, r2, v3, r'', e5, r3, w, e3, r4⟩ => by
    subst e e3 e5 e4 e2
    exact .tup (st_any q) (.cons (h1.dp r1) (.cons (h2.dp r2) (.cons (h3.dp r3) (.cons (h4.dp r4) .nil)))), fun ⟨a, vs, e, q, v, r, e2, r1, v2, r', e4, r2, v3, r'', e5, r3, w, e3, r4⟩ => by
    show (PyData.canLay0 _ && (PyData.canLay0 _ && (PyData.canLay0 _ && (PyData.canLay0 _ && true)))) = true
    rw [h1.lay r1, h2.lay r2, h3.lay r3, h4.lay r4]; rfl, pd_t4 h1.pl h2.pl h3.pl h4.pl⟩
end

/-! ### operators on data -/
section
variable {ta tb : TE} {tx ty tz : TT} {K : PySem.W.Frag} {X : Cx} {S : Type} {Δ Δ1 Δ2 Δ3 : Ctx K S} {e a b c : Expr} {pos p' : Pos} {τ τa τb τ1 τ2 : Ty K} {ω : OTy K} {m1 m2 m3 ms : List Nat} {c1 c2 c3 cs : List (S → Prop)} {op : Operator} {cop : CmpOp}
def ConjC {α β : Type} : List (α → β → Prop) → α → β → Prop
  | [], _, _ => True
  | c :: cs, x, y => c x y ∧ ConjC cs x y
theorem conjC {α β : Type} {fa : S → α} {fb : S → β} {s : S} : ∀ {cc : List (α → β → Prop)}, Conj (cc.map fun c s => c (fa s) (fb s)) s → ConjC cc (fa s) (fb s)
  | [], _ => trivial
  | c :: cc, h => ⟨h.1, conjC (cc := cc) h.2⟩
/-- what a two-place operation makes of data -/
def R2ok (K : PySem.W.Frag) (r : R2) (τa τb τ : Ty K) (cc : List (τa.α → τb.α → Prop)) (g : τa.α → τb.α → τ.α) : Prop :=
  ∀ x y v u F H, Same F H → τa.rep F v x → τb.rep F u y → ConjC cc x y → ∀ Q : VK, (∀ z F' H', Gr No F H F' H' → τ.rep F' z (g x y) → Q z H') → r v u H Q
/-- .. a new object of one's own -/
def R2new (K : PySem.W.Frag) (r : R2) (τa τb : Ty K) (ω : OTy K) (cc : List (τa.α → τb.α → Prop)) (g : τa.α → τb.α → ω.τ.α) : Prop :=
  ∀ x y v u F H, Same F H → τa.rep F v x → τb.rep F u y → ConjC cc x y → ∀ Q : VK, (∀ p z, H p = none → ω.own F z (g x y) → Q (.ref p) (upd H p z)) → r v u H Q
theorem DX.bin {r : R2} {cc : List (τa.α → τb.α → Prop)} {g : τa.α → τb.α → τ.α} {fa : S → τa.α} {fb : S → τb.α} (hr : R2ok K r τa τb τ cc g) (ha : DX K X Δ a τa m1 c1 Δ1 fa ta) (hb : DX K X Δ1 b τb m2 c2 Δ2 fb tb)
    (hop : PE X a ta → PE X b tb → PE X e (tOp r ta tb)) : DX K X Δ e τ (m1 ++ m2) (c1 ++ (c2 ++ cc.map fun c s => c (fa s) (fb s))) Δ2 (fun s => g (fa s) (fb s)) (tOp r ta tb) := by
  obtain ⟨d1, pa, ra⟩ := ha
  obtain ⟨d2, pb, rb⟩ := hb
  refine ⟨d1.trans d2, hop pa pb, fun s F H σ hh sm hc Q q => ?_⟩
  obtain ⟨h1, h2⟩ := conj_app hc
  obtain ⟨h2, h3⟩ := conj_app h2
  refine ra s F H σ hh sm h1 _ fun v F1 H1 g1 hh1 r1 => ?_
  refine rb s F1 H1 σ hh1 g1.fh h2 _ fun u F2 H2 g2 hh2 r2 => ?_
  have g12 := (g1.mono (msAt_l (m2 := m2))).trans (g2.mono (msAt_r (m1 := m1)))
  exact hr _ _ v u F2 H2 g2.fh (τa.mono g2.ff r1) r2 (conjC h3) Q fun z F3 H3 g3 r3 => q z F3 H3 (g12.trans g3.of0) (hh2.grow g3) r3
theorem DT.bin {r : R2} {cc : List (τa.α → τb.α → Prop)} {g : τa.α → τb.α → Bool} {fa : S → τa.α} {fb : S → τb.α} (hr : R2ok K r τa τb (tBool K) cc g) (ha : DX K X Δ a τa m1 c1 Δ1 fa ta) (hb : DX K X Δ1 b τb m2 c2 Δ2 fb tb)
    (hop : PE X a ta → PE X b tb → PT X e (tTest (tOp r ta tb))) : DT K X Δ e (m1 ++ m2) (c1 ++ (c2 ++ cc.map fun c s => c (fa s) (fb s))) Δ2 (fun s => g (fa s) (fb s)) (tTest (tOp r ta tb)) := by
  obtain ⟨d1, pa, ra⟩ := ha
  obtain ⟨d2, pb, rb⟩ := hb
  refine ⟨d1.trans d2, hop pa pb, fun s F H σ hh sm hc Q q => ?_⟩
  obtain ⟨h1, h2⟩ := conj_app hc
  obtain ⟨h2, h3⟩ := conj_app h2
  refine ra s F H σ hh sm h1 _ fun v F1 H1 g1 hh1 r1 => ?_
  refine rb s F1 H1 σ hh1 g1.fh h2 _ fun u F2 H2 g2 hh2 r2 => ?_
  have g12 := (g1.mono (msAt_l (m2 := m2))).trans (g2.mono (msAt_r (m1 := m1)))
  exact hr _ _ v u F2 H2 g2.fh (τa.mono g2.ff r1) r2 (conjC h3) _ fun z F3 H3 g3 r3 => ⟨_, r3, q F3 H3 (g12.trans g3.of0) (hh2.grow g3)⟩
theorem own_of_new {F H : Hp} {p : Addr} {z : HO} {x : ω.τ.α} (sm : Same F H) (n : H p = none) (o : ω.own F z x) : Gr No F H F (upd H p z) ∧ F p = none ∧ (upd H p z) p = some z := ⟨Gr.newO sm n, sm.free n, upd_same⟩
theorem DO.bin {r : R2} {cc : List (τa.α → τb.α → Prop)} {g : τa.α → τb.α → ω.τ.α} {fa : S → τa.α} {fb : S → τb.α} (hr : R2new K r τa τb ω cc g) (ha : DX K X Δ a τa m1 c1 Δ1 fa ta) (hb : DX K X Δ1 b τb m2 c2 Δ2 fb tb)
    (hop : PE X a ta → PE X b tb → PE X e (tOp r ta tb)) : DO K X Δ e ω (m1 ++ m2) (c1 ++ (c2 ++ cc.map fun c s => c (fa s) (fb s))) Δ2 (fun s => g (fa s) (fb s)) (tOp r ta tb) := by
  obtain ⟨d1, pa, ra⟩ := ha
  obtain ⟨d2, pb, rb⟩ := hb
  refine ⟨d1.trans d2, hop pa pb, fun s F H σ hh sm hc Q q => ?_⟩
  obtain ⟨h1, h2⟩ := conj_app hc
  obtain ⟨h2, h3⟩ := conj_app h2
  refine ra s F H σ hh sm h1 _ fun v F1 H1 g1 hh1 r1 => ?_
  refine rb s F1 H1 σ hh1 g1.fh h2 _ fun u F2 H2 g2 hh2 r2 => ?_
  have g12 := (g1.mono (msAt_l (m2 := m2))).trans (g2.mono (msAt_r (m1 := m1)))
  refine hr _ _ v u F2 H2 g2.fh (τa.mono g2.ff r1) r2 (conjC h3) Q fun p z n o => ?_
  obtain ⟨g3, fn, e3⟩ := own_of_new g2.fh n o
  exact q p z F2 _ (g12.trans g3.of0) (hh2.grow g3) (g12.dom p n) fn e3 o

/-! #### whole numbers -/
theorem r2_I0 {g : Int → Int → V} {h : Int → Int → τ.α} (hg : ∀ F x y, τ.rep F (g x y) (h x y)) : R2ok K (rI0 g) (tInt K) (tInt K) τ [] h := fun x y v u F H sm r1 r2 _ Q q => by
  subst r1 r2
  exact ⟨x, y, rfl, rfl, q _ F H (Gr.refl sm) (hg F x y)⟩
theorem r2_I {C : Int → Int → Prop} {g : Int → Int → V} {h : Int → Int → τ.α} (hg : ∀ F x y, τ.rep F (g x y) (h x y)) : R2ok K (rI C g) (tInt K) (tInt K) τ [C] h := fun x y v u F H sm r1 r2 hc Q q => by
  subst r1 r2
  exact ⟨x, y, rfl, rfl, hc.1, q _ F H (Gr.refl sm) (hg F x y)⟩
variable {fa fb : S → Int}
theorem DX.add (ha : DX K X Δ a (tInt K) m1 c1 Δ1 fa ta) (hb : DX K X Δ1 b (tInt K) m2 c2 Δ2 fb tb) : DX K X Δ (.BinOp a .Add b pos) (tInt K) (m1 ++ m2) (c1 ++ (c2 ++ [])) Δ2 (fun s => fa s + fb s) (tOp (rI0 fun i j => .int (i + j)) ta tb) :=
  DX.bin (g := fun x y => x + y) (r2_I0 fun _ _ _ => rfl) ha hb fun p q => pe_op op_add p q
theorem DX.sub (ha : DX K X Δ a (tInt K) m1 c1 Δ1 fa ta) (hb : DX K X Δ1 b (tInt K) m2 c2 Δ2 fb tb) : DX K X Δ (.BinOp a .Sub b pos) (tInt K) (m1 ++ m2) (c1 ++ (c2 ++ [])) Δ2 (fun s => fa s - fb s) (tOp (rI0 fun i j => .int (i - j)) ta tb) :=
  DX.bin (g := fun x y => x - y) (r2_I0 fun _ _ _ => rfl) ha hb fun p q => pe_op op_sub p q
/-- a comparison of two ints, as a value and as a test -/
theorem DX.cmpI {P : Int → Int → Bool} (ho : OpR X (compareOp cop) (rI0 fun i j => .bl (P i j))) (hm : behindInMarks cop b = false) (ha : DX K X Δ a (tInt K) m1 c1 Δ1 fa ta) (hb : DX K X Δ1 b (tInt K) m2 c2 Δ2 fb tb) : DX K X Δ (.Compare a [cop] [b] pos) (tBool K) (m1 ++ m2) (c1 ++ (c2 ++ [])) Δ2 (fun s => P (fa s) (fb s)) (tOp (rI0 fun i j => .bl (P i j)) ta tb) :=
  DX.bin (τ := tBool K) (cc := []) (g := fun (x y : Int) => P x y) (r2_I0 fun _ _ _ => rfl) ha hb fun p q => pe_cmpR ho p q hm
theorem DT.cmpI {P : Int → Int → Bool} (ho : OpR X (compareOp cop) (rI0 fun i j => .bl (P i j))) (hm : behindInMarks cop b = false) (ha : DX K X Δ a (tInt K) m1 c1 Δ1 fa ta) (hb : DX K X Δ1 b (tInt K) m2 c2 Δ2 fb tb) : DT K X Δ (.Compare a [cop] [b] pos) (m1 ++ m2) (c1 ++ (c2 ++ [])) Δ2 (fun s => P (fa s) (fb s)) (tTest (tOp (rI0 fun i j => .bl (P i j)) ta tb)) :=
  DT.bin (cc := []) (g := fun (x y : Int) => P x y) (r2_I0 fun _ _ _ => rfl) ha hb fun p q => pt_cmpR ho p q hm
theorem DX.lt (ha : DX K X Δ a (tInt K) m1 c1 Δ1 fa ta) (hb : DX K X Δ1 b (tInt K) m2 c2 Δ2 fb tb) : DX K X Δ (.Compare a [.Lt] [b] pos) (tBool K) (m1 ++ m2) (c1 ++ (c2 ++ [])) Δ2 (fun s => decide (fa s < fb s)) (tOp (rI0 fun i j => .bl (decide (i < j))) ta tb) := DX.cmpI op_lt (nomark _) ha hb
theorem DX.le (ha : DX K X Δ a (tInt K) m1 c1 Δ1 fa ta) (hb : DX K X Δ1 b (tInt K) m2 c2 Δ2 fb tb) : DX K X Δ (.Compare a [.LtE] [b] pos) (tBool K) (m1 ++ m2) (c1 ++ (c2 ++ [])) Δ2 (fun s => decide (fa s ≤ fb s)) (tOp (rI0 fun i j => .bl (decide (i ≤ j))) ta tb) := DX.cmpI op_le (nomark _) ha hb
theorem DX.gt (ha : DX K X Δ a (tInt K) m1 c1 Δ1 fa ta) (hb : DX K X Δ1 b (tInt K) m2 c2 Δ2 fb tb) : DX K X Δ (.Compare a [.Gt] [b] pos) (tBool K) (m1 ++ m2) (c1 ++ (c2 ++ [])) Δ2 (fun s => decide (fb s < fa s)) (tOp (rI0 fun i j => .bl (decide (j < i))) ta tb) := DX.cmpI (P := fun i j => decide (j < i)) op_gt (nomark _) ha hb
theorem DX.ge (ha : DX K X Δ a (tInt K) m1 c1 Δ1 fa ta) (hb : DX K X Δ1 b (tInt K) m2 c2 Δ2 fb tb) : DX K X Δ (.Compare a [.GtE] [b] pos) (tBool K) (m1 ++ m2) (c1 ++ (c2 ++ [])) Δ2 (fun s => decide (fb s ≤ fa s)) (tOp (rI0 fun i j => .bl (decide (j ≤ i))) ta tb) := DX.cmpI (P := fun i j => decide (j ≤ i)) op_ge (nomark _) ha hb
theorem DT.lt (ha : DX K X Δ a (tInt K) m1 c1 Δ1 fa ta) (hb : DX K X Δ1 b (tInt K) m2 c2 Δ2 fb tb) : DT K X Δ (.Compare a [.Lt] [b] pos) (m1 ++ m2) (c1 ++ (c2 ++ [])) Δ2 (fun s => decide (fa s < fb s)) (tTest (tOp (rI0 fun i j => .bl (decide (i < j))) ta tb)) := DT.cmpI op_lt (nomark _) ha hb
theorem DT.le (ha : DX K X Δ a (tInt K) m1 c1 Δ1 fa ta) (hb : DX K X Δ1 b (tInt K) m2 c2 Δ2 fb tb) : DT K X Δ (.Compare a [.LtE] [b] pos) (m1 ++ m2) (c1 ++ (c2 ++ [])) Δ2 (fun s => decide (fa s ≤ fb s)) (tTest (tOp (rI0 fun i j => .bl (decide (i ≤ j))) ta tb)) := DT.cmpI op_le (nomark _) ha hb
theorem DT.gt (ha : DX K X Δ a (tInt K) m1 c1 Δ1 fa ta) (hb : DX K X Δ1 b (tInt K) m2 c2 Δ2 fb tb) : DT K X Δ (.Compare a [.Gt] [b] pos) (m1 ++ m2) (c1 ++ (c2 ++ [])) Δ2 (fun s => decide (fb s < fa s)) (tTest (tOp (rI0 fun i j => .bl (decide (j < i))) ta tb)) := DT.cmpI (P := fun i j => decide (j < i)) op_gt (nomark _) ha hb
theorem DT.ge (ha : DX K X Δ a (tInt K) m1 c1 Δ1 fa ta) (hb : DX K X Δ1 b (tInt K) m2 c2 Δ2 fb tb) : DT K X Δ (.Compare a [.GtE] [b] pos) (m1 ++ m2) (c1 ++ (c2 ++ [])) Δ2 (fun s => decide (fb s ≤ fa s)) (tTest (tOp (rI0 fun i j => .bl (decide (j ≤ i))) ta tb)) := DT.cmpI (P := fun i j => decide (j ≤ i)) op_ge (nomark _) ha hb
/-- n // m, n % m: m positive, not too long -/
theorem DX.fdiv (ha : DX K X Δ a (tInt K) m1 c1 Δ1 fa ta) (hb : DX K X Δ1 b (tInt K) m2 c2 Δ2 fb tb) : DX K X Δ (.BinOp a .FloorDiv b pos) (tInt K) (m1 ++ m2) (c1 ++ (c2 ++ [fun s => CDivW (fa s) (fb s)])) Δ2 (fun s => fa s / fb s) (tOp (rI CDivW fun i j => .int (i / j)) ta tb) :=
  DX.bin (g := fun x y => x / y) (r2_I fun _ _ _ => rfl) ha hb fun p q => pe_op op_fdivW p q
def CPosM (_ j : Int) : Prop := 0 < j
def rModP : R2 := rI CPosM fun i j => .int (i % j)
theorem op_modP : OpR X (binaryOp .Mod) rModP := fun pins s σ H x y v u Q I rx ry ⟨i, j, e1, e2, c, q⟩ =>
  op_modN pins s σ H x y v u Q I rx ry ⟨i, j, e1, e2, Int.ne_of_gt c, by
    show Q (V.int (i.fmod j)) H
    rw [Int.fmod_eq_emod_of_nonneg i (Int.le_of_lt c)]
    exact q⟩
theorem DX.mod (ha : DX K X Δ a (tInt K) m1 c1 Δ1 fa ta) (hb : DX K X Δ1 b (tInt K) m2 c2 Δ2 fb tb) : DX K X Δ (.BinOp a .Mod b pos) (tInt K) (m1 ++ m2) (c1 ++ (c2 ++ [fun s => CPosM (fa s) (fb s)])) Δ2 (fun s => fa s % fb s) (tOp rModP ta tb) :=
  DX.bin (g := fun x y => x % y) (r2_I fun _ _ _ => rfl) ha hb fun p q => pe_op op_modP p q
/-- n * m of together less than 2 ^ 24 bits -/
def CMulX (i j : Int) : Prop := i.natAbs.log2 + j.natAbs.log2 < 16777216
theorem CMulX.ok {i j : Int} (h : CMulX i j) : IntMulOk i j := by
  have b : ∀ x : Int, Builtin.Int.intBits x ≤ x.natAbs.log2 + 1 := fun x => by
    unfold Builtin.Int.intBits
    split <;> omega
  have h1 := b i
  have h2 := b j
  have h3 : i.natAbs.log2 + j.natAbs.log2 < 16777216 := h
  have e : bitsLine = 134217728 := by decide
  intro z
  have z2 := (Bool.and_eq_true _ _ ▸ z).2
  unfold Builtin.Int.intTooBig at z2
  have z3 := of_decide_eq_true z2
  omega
theorem op_mulX : OpR X (binaryOp .Mult) (rI CMulX fun i j => .int (i * j)) := opI fun _ _ _ _ _ _ _ hc q => mul_int q hc.ok
theorem DX.mul (ha : DX K X Δ a (tInt K) m1 c1 Δ1 fa ta) (hb : DX K X Δ1 b (tInt K) m2 c2 Δ2 fb tb) : DX K X Δ (.BinOp a .Mult b pos) (tInt K) (m1 ++ m2) (c1 ++ (c2 ++ [fun s => CMulX (fa s) (fb s)])) Δ2 (fun s => fa s * fb s) (tOp (rI CMulX fun i j => .int (i * j)) ta tb) :=
  DX.bin (g := fun x y => x * y) (r2_I fun _ _ _ => rfl) ha hb fun p q => pe_op op_mulX p q
theorem DX.neg (ha : DX K X Δ a (tInt K) m1 c1 Δ1 fa ta) : DX K X Δ (.UnaryOp .USub a pos) (tInt K) m1 c1 Δ1 (fun s => - fa s) (tUn (rU fun i => .int (-i)) ta) := by
  obtain ⟨d1, pa, ra⟩ := ha
  refine ⟨d1, pe_un un_neg pa, fun s F H σ hh sm hc Q q => ?_⟩
  exact ra s F H σ hh sm hc _ fun v F1 H1 g1 hh1 r1 => ⟨fa s, r1, q _ F1 H1 g1 hh1 rfl⟩

/-! #### == and != of data -/
theorem r2_eqD {d : DF τ.α} (h : Dat τ d) (hn : d.n ≤ 64) : R2ok K (rEqD K) τ τ (tBool K) [] (fun x y => d.eq x y) := fun x y v u F H sm r1 r2 _ Q q => by
  have lo : ∀ {z w}, τ.rep F w z → Dp K H w (d.toD z) ∧ SeqAt.shaped (d.toD z) = true := fun {z w} r => ⟨h.dp (τ.mono sm r), by
    unfold SeqAt.shaped
    rw [h.lay r, Bool.true_and]
    exact decide_eq_true (Nat.le_trans (h.pl.dep z) hn)⟩
  exact ⟨_, _, (lo r1).1, (lo r2).1, (lo r1).2, (lo r2).2, by rw [h.pl.eqv]; exact q _ F H (Gr.refl sm) rfl⟩
theorem r2_neD {d : DF τ.α} (h : Dat τ d) (hn : d.n ≤ 64) : R2ok K (rNeD K) τ τ (tBool K) [] (fun x y => !d.eq x y) := fun x y v u F H sm r1 r2 _ Q q => by
  have lo : ∀ {z w}, τ.rep F w z → Dp K H w (d.toD z) ∧ SeqAt.shaped (d.toD z) = true := fun {z w} r => ⟨h.dp (τ.mono sm r), by
    unfold SeqAt.shaped
    rw [h.lay r, Bool.true_and]
    exact decide_eq_true (Nat.le_trans (h.pl.dep z) hn)⟩
  exact ⟨_, _, (lo r1).1, (lo r2).1, (lo r1).2, (lo r2).2, by rw [h.pl.eqv]; exact q _ F H (Gr.refl sm) rfl⟩
section
variable {ga gb : S → τ.α} {k : Nat} {d : DF τ.α}
theorem DX.eq (hr : Room k X.A) (h : Dat τ d) (ha : DX K X Δ a τ m1 c1 Δ1 ga ta) (hb : DX K X Δ1 b τ m2 c2 Δ2 gb tb) (hn : d.n ≤ 64 := by decide) (hK : X.K = K := by rfl) : DX K X Δ (.Compare a [.Eq] [b] pos) (tBool K) (m1 ++ m2) (c1 ++ (c2 ++ [])) Δ2 (fun s => d.eq (ga s) (gb s)) (tOp (rEqD K) ta tb) := by
  subst hK
  exact DX.bin (r2_eqD h hn) ha hb fun p q => pe_cmpR (op_eqD hr.units) p q (nomark _)
theorem DX.ne (hr : Room k X.A) (h : Dat τ d) (ha : DX K X Δ a τ m1 c1 Δ1 ga ta) (hb : DX K X Δ1 b τ m2 c2 Δ2 gb tb) (hn : d.n ≤ 64 := by decide) (hK : X.K = K := by rfl) : DX K X Δ (.Compare a [.NotEq] [b] pos) (tBool K) (m1 ++ m2) (c1 ++ (c2 ++ [])) Δ2 (fun s => !d.eq (ga s) (gb s)) (tOp (rNeD K) ta tb) := by
  subst hK
  exact DX.bin (r2_neD h hn) ha hb fun p q => pe_cmpR (op_neD hr.units) p q (nomark _)
theorem DT.eq (hr : Room k X.A) (h : Dat τ d) (ha : DX K X Δ a τ m1 c1 Δ1 ga ta) (hb : DX K X Δ1 b τ m2 c2 Δ2 gb tb) (hn : d.n ≤ 64 := by decide) (hK : X.K = K := by rfl) : DT K X Δ (.Compare a [.Eq] [b] pos) (m1 ++ m2) (c1 ++ (c2 ++ [])) Δ2 (fun s => d.eq (ga s) (gb s)) (tTest (tOp (rEqD K) ta tb)) := by
  subst hK
  exact DT.bin (r2_eqD h hn) ha hb fun p q => pt_cmpR (op_eqD hr.units) p q (nomark _)
theorem DT.ne (hr : Room k X.A) (h : Dat τ d) (ha : DX K X Δ a τ m1 c1 Δ1 ga ta) (hb : DX K X Δ1 b τ m2 c2 Δ2 gb tb) (hn : d.n ≤ 64 := by decide) (hK : X.K = K := by rfl) : DT K X Δ (.Compare a [.NotEq] [b] pos) (m1 ++ m2) (c1 ++ (c2 ++ [])) Δ2 (fun s => !d.eq (ga s) (gb s)) (tTest (tOp (rNeD K) ta tb)) := by
  subst hK
  exact DT.bin (r2_neD h hn) ha hb fun p q => pt_cmpR (op_neD hr.units) p q (nomark _)
end
/-- is None, is not None -/
theorem opt_n {F : Hp} {v : V} {x : Option τ.α} (r : (tOpt τ).rep F v x) : decide (v = .non) = x.isNone := by
  cases x with
  | none => rw [show v = V.non from r]; rfl
  | some y => exact decide_eq_false r.1
theorem opt_s {F : Hp} {v : V} {x : Option τ.α} (r : (tOpt τ).rep F v x) : (!decide (v = .non)) = x.isSome := by
  rw [opt_n r]
  cases x <;> rfl
theorem DX.isN {f : S → Option τ.α} (ha : DX K X Δ a (tOpt τ) m1 c1 Δ1 f ta) {j : Nat} : DX K X Δ (.Compare a [.Is] [.Constant .none j p'] pos) (tBool K) m1 c1 Δ1 (fun s => (f s).isNone) (tIsN ta) := by
  obtain ⟨d1, pa, ra⟩ := ha
  exact ⟨d1, pe_cmp (pc_isN pa) rfl, fun s F H σ hh sm hc Q q => ra s F H σ hh sm hc _ fun v F1 H1 g1 hh1 r1 => q _ F1 H1 g1 hh1 (congrArg V.bl (opt_n r1))⟩
theorem DX.notN {f : S → Option τ.α} (ha : DX K X Δ a (tOpt τ) m1 c1 Δ1 f ta) {j : Nat} : DX K X Δ (.Compare a [.IsNot] [.Constant .none j p'] pos) (tBool K) m1 c1 Δ1 (fun s => (f s).isSome) (tNotN ta) := by
  obtain ⟨d1, pa, ra⟩ := ha
  exact ⟨d1, pe_cmp (pc_notN pa) rfl, fun s F H σ hh sm hc Q q => ra s F H σ hh sm hc _ fun v F1 H1 g1 hh1 r1 => q _ F1 H1 g1 hh1 (congrArg V.bl (opt_s r1))⟩
theorem DT.isN {f : S → Option τ.α} (ha : DX K X Δ a (tOpt τ) m1 c1 Δ1 f ta) {j : Nat} : DT K X Δ (.Compare a [.Is] [.Constant .none j p'] pos) m1 c1 Δ1 (fun s => (f s).isNone) (tB (tIsN ta)) := by
  obtain ⟨d1, pa, ra⟩ := ha
  exact ⟨d1, pt_cmp (pc_isN pa) rfl, fun s F H σ hh sm hc Q q => ra s F H σ hh sm hc _ fun v F1 H1 g1 hh1 r1 => ⟨_, congrArg V.bl (opt_n r1), q F1 H1 g1 hh1⟩⟩
theorem DT.notN {f : S → Option τ.α} (ha : DX K X Δ a (tOpt τ) m1 c1 Δ1 f ta) {j : Nat} : DT K X Δ (.Compare a [.IsNot] [.Constant .none j p'] pos) m1 c1 Δ1 (fun s => (f s).isSome) (tB (tNotN ta)) := by
  obtain ⟨d1, pa, ra⟩ := ha
  exact ⟨d1, pt_cmp (pc_notN pa) rfl, fun s F H σ hh sm hc Q q => ra s F H σ hh sm hc _ fun v F1 H1 g1 hh1 r1 => ⟨_, congrArg V.bl (opt_s r1), q F1 H1 g1 hh1⟩⟩

/-! ### truth -/
section
variable {f g : S → Bool} {rest : List Expr}
theorem DT.ofX (ha : DX K X Δ a (tBool K) m1 c1 Δ1 f ta) (he : ∀ whole, isTrue a X.env whole = (do let v ← whole; standAt a.pos; holding [v] (truthy v)) := by intro _; rfl) : DT K X Δ a m1 c1 Δ1 f (tB ta) := by
  obtain ⟨d1, pa, ra⟩ := ha
  exact ⟨d1, pt_val pa he, fun s F H σ hh sm hc Q q => ra s F H σ hh sm hc _ fun v F1 H1 g1 hh1 r1 => ⟨_, r1, q F1 H1 g1 hh1⟩⟩
theorem DT.not (ha : DT K X Δ a m1 c1 Δ1 f tx) : DT K X Δ (.UnaryOp .Not a pos) m1 c1 Δ1 (fun s => !f s) (tNot tx) := by
  obtain ⟨d1, pa, ra⟩ := ha
  exact ⟨d1, pt_not pa, fun s F H σ hh sm hc Q q => ra s F H σ hh sm hc _ fun F1 H1 g1 hh1 => q F1 H1 g1 hh1⟩
theorem DX.not (ha : DX K X Δ a (tBool K) m1 c1 Δ1 f ta) : DX K X Δ (.UnaryOp .Not a pos) (tBool K) m1 c1 Δ1 (fun s => !f s) (tNotV ta) := by
  obtain ⟨d1, pa, ra⟩ := ha
  exact ⟨d1, pe_not pa, fun s F H σ hh sm hc Q q => ra s F H σ hh sm hc _ fun v F1 H1 g1 hh1 r1 => ⟨_, r1, q _ F1 H1 g1 hh1 rfl⟩⟩
theorem DW.and1 (ha : DT K X Δ a m1 c1 Δ1 f tx) : DW K X Δ (.BoolOp .And [a] pos) m1 c1 Δ1 f tx := by
  obtain ⟨d1, pa, ra⟩ := ha
  exact ⟨d1, pw_and1 pa, ra⟩
theorem DW.or1 (ha : DT K X Δ a m1 c1 Δ1 f tx) : DW K X Δ (.BoolOp .Or [a] pos) m1 c1 Δ1 f tx := by
  obtain ⟨d1, pa, ra⟩ := ha
  exact ⟨d1, pw_or1 pa, ra⟩
theorem DX.and1 {o : BoolOp} (ha : DX K X Δ a (tBool K) m1 c1 Δ1 f ta) : DX K X Δ (.BoolOp o [a] pos) (tBool K) m1 c1 Δ1 f ta := by
  obtain ⟨d1, pa, ra⟩ := ha
  exact ⟨d1, pe_one pa, ra⟩
/-- conditions under a guard -/
def guardT (g : S → Bool) (cs : List (S → Prop)) : List (S → Prop) := cs.map fun c s => g s = true → c s
def guardF (g : S → Bool) (cs : List (S → Prop)) : List (S → Prop) := cs.map fun c s => g s = false → c s
theorem guardT_conj {g : S → Bool} {s : S} (h : g s = true) : ∀ {cs : List (S → Prop)}, Conj (guardT g cs) s → Conj cs s
  | [], _ => trivial
  | c :: cs, q => ⟨q.1 h, guardT_conj h (cs := cs) q.2⟩
theorem guardF_conj {g : S → Bool} {s : S} (h : g s = false) : ∀ {cs : List (S → Prop)}, Conj (guardF g cs) s → Conj cs s
  | [], _ => trivial
  | c :: cs, q => ⟨q.1 h, guardF_conj h (cs := cs) q.2⟩
/-- the second operand changes nothing -/
theorem DW.and (ha : DT K X Δ a m1 c1 Δ1 f tx) (hb : DW K X Δ1 (.BoolOp .And (b :: rest) pos) [] c2 Δ1 g ty) : DW K X Δ (.BoolOp .And (a :: b :: rest) pos) m1 (c1 ++ guardT f c2) Δ1 (fun s => f s && g s) (tAnd tx ty) := by
  obtain ⟨d1, pa, ra⟩ := ha
  obtain ⟨d2, pb, rb⟩ := hb
  refine ⟨d1, pw_and pa pb, fun s F H σ hh sm hc Q q => ?_⟩
  obtain ⟨h1, h2⟩ := conj_app hc
  refine ra s F H σ hh sm h1 _ fun F1 H1 g1 hh1 => ?_
  cases e : f s with
  | true =>
    show ty σ H1 Q
    refine rb s F1 H1 σ hh1 g1.fh (guardT_conj e h2) Q fun F2 H2 g2 hh2 => ?_
    rw [msAt_nil] at g2
    have := q F2 H2 (g1.trans g2.of0) hh2
    simp only [e, Bool.true_and] at this
    exact this
  | false =>
    have := q F1 H1 g1 hh1
    simp only [e, Bool.false_and] at this
    exact this
theorem DW.or (ha : DT K X Δ a m1 c1 Δ1 f tx) (hb : DW K X Δ1 (.BoolOp .Or (b :: rest) pos) [] c2 Δ1 g ty) : DW K X Δ (.BoolOp .Or (a :: b :: rest) pos) m1 (c1 ++ guardF f c2) Δ1 (fun s => f s || g s) (tOr tx ty) := by
  obtain ⟨d1, pa, ra⟩ := ha
  obtain ⟨d2, pb, rb⟩ := hb
  refine ⟨d1, pw_or pa pb, fun s F H σ hh sm hc Q q => ?_⟩
  obtain ⟨h1, h2⟩ := conj_app hc
  refine ra s F H σ hh sm h1 _ fun F1 H1 g1 hh1 => ?_
  cases e : f s with
  | false =>
    show ty σ H1 Q
    refine rb s F1 H1 σ hh1 g1.fh (guardF_conj e h2) Q fun F2 H2 g2 hh2 => ?_
    rw [msAt_nil] at g2
    have := q F2 H2 (g1.trans g2.of0) hh2
    simp only [e, Bool.false_or] at this
    exact this
  | true =>
    have := q F1 H1 g1 hh1
    simp only [e, Bool.true_or] at this
    exact this
theorem DX.and (ha : DX K X Δ a (tBool K) m1 c1 Δ1 f ta) (hb : DX K X Δ1 (.BoolOp .And (b :: rest) pos) (tBool K) [] c2 Δ1 g tb) : DX K X Δ (.BoolOp .And (a :: b :: rest) pos) (tBool K) m1 (c1 ++ guardT f c2) Δ1 (fun s => f s && g s) (tAndV ta tb) := by
  obtain ⟨d1, pa, ra⟩ := ha
  obtain ⟨d2, pb, rb⟩ := hb
  refine ⟨d1, pe_and pa pb, fun s F H σ hh sm hc Q q => ?_⟩
  obtain ⟨h1, h2⟩ := conj_app hc
  refine ra s F H σ hh sm h1 _ fun v F1 H1 g1 hh1 r1 => ⟨f s, r1, ?_⟩
  cases e : f s with
  | true =>
    show tb σ H1 Q
    refine rb s F1 H1 σ hh1 g1.fh (guardT_conj e h2) Q fun v2 F2 H2 g2 hh2 r2 => ?_
    rw [msAt_nil] at g2
    exact q v2 F2 H2 (g1.trans g2.of0) hh2 (by simp only [e, Bool.true_and]; exact r2)
  | false =>
    exact q _ F1 H1 g1 hh1 (by simp only [e, Bool.false_and])
theorem DX.or (ha : DX K X Δ a (tBool K) m1 c1 Δ1 f ta) (hb : DX K X Δ1 (.BoolOp .Or (b :: rest) pos) (tBool K) [] c2 Δ1 g tb) : DX K X Δ (.BoolOp .Or (a :: b :: rest) pos) (tBool K) m1 (c1 ++ guardF f c2) Δ1 (fun s => f s || g s) (tOrV ta tb) := by
  obtain ⟨d1, pa, ra⟩ := ha
  obtain ⟨d2, pb, rb⟩ := hb
  refine ⟨d1, pe_or pa pb, fun s F H σ hh sm hc Q q => ?_⟩
  obtain ⟨h1, h2⟩ := conj_app hc
  refine ra s F H σ hh sm h1 _ fun v F1 H1 g1 hh1 r1 => ⟨f s, r1, ?_⟩
  cases e : f s with
  | false =>
    show tb σ H1 Q
    refine rb s F1 H1 σ hh1 g1.fh (guardF_conj e h2) Q fun v2 F2 H2 g2 hh2 r2 => ?_
    rw [msAt_nil] at g2
    exact q v2 F2 H2 (g1.trans g2.of0) hh2 (by simp only [e, Bool.false_or]; exact r2)
  | true =>
    exact q _ F1 H1 g1 hh1 (by simp only [e, Bool.true_or])
/-- a if c else b, both without effects -/
theorem DX.ite {ga gb : S → τ.α} (hc : DT K X Δ c m1 c1 Δ1 f tz) (ha : DX K X Δ1 a τ [] c2 Δ1 ga ta) (hb : DX K X Δ1 b τ [] c3 Δ1 gb tb) : DX K X Δ (.IfExp c a b pos) τ m1 (c1 ++ (guardT f c2 ++ guardF f c3)) Δ1 (fun s => if f s = true then ga s else gb s) (tIf tz ta tb) := by
  obtain ⟨d1, pc, rc⟩ := hc
  obtain ⟨_, pa, ra⟩ := ha
  obtain ⟨_, pb, rb⟩ := hb
  refine ⟨d1, pe_ifExp pc pa pb, fun s F H σ hh sm hc Q q => ?_⟩
  obtain ⟨h1, h2⟩ := conj_app hc
  obtain ⟨h2, h3⟩ := conj_app h2
  refine rc s F H σ hh sm h1 _ fun F1 H1 g1 hh1 => ?_
  cases e : f s with
  | true =>
    show ta σ H1 Q
    refine ra s F1 H1 σ hh1 g1.fh (guardT_conj e h2) Q fun v2 F2 H2 g2 hh2 r2 => ?_
    rw [msAt_nil] at g2
    exact q v2 F2 H2 (g1.trans g2.of0) hh2 (by simp only [e, if_true]; exact r2)
  | false =>
    show tb σ H1 Q
    refine rb s F1 H1 σ hh1 g1.fh (guardF_conj e h3) Q fun v2 F2 H2 g2 hh2 r2 => ?_
    rw [msAt_nil] at g2
    exact q v2 F2 H2 (g1.trans g2.of0) hh2 (by simp only [e, if_false, Bool.false_eq_true]; exact r2)
end
end
end Dx

/-! Dx, part C: displays, items, arguments, what a def promises, calls. -/
namespace Dx
open PySem PySem.Spec PyProof.Rows L2
section
variable {K : PySem.W.Frag} {S : Type}
/-- items of one type; of several -/
def DL (K : PySem.W.Frag) (X : Cx) (Δ : Ctx K S) (es : List Expr) (τ : Ty K) (ms : List Nat) (cs : List (S → Prop)) (Δ1 : Ctx K S) (f : S → List τ.α) (t : TA) : Prop :=
  Diff ms Δ Δ1 ∧ PA X es t ∧ ∀ s F H σ, Holds Δ s F H σ → Same F H → Conj cs s → ∀ Q : List V → Hp → Prop, (∀ vs F' H', Gr (MsAt ms σ) F H F' H' → Holds Δ1 s F' H' σ → Paired (τ.rep F') vs (f s) → Q vs H') → t σ H Q
def DTs (K : PySem.W.Frag) (X : Cx) (Δ : Ctx K S) (es : List Expr) (ts : List (Ty K)) (ms : List Nat) (cs : List (S → Prop)) (Δ1 : Ctx K S) (f : S → HL ts) (t : TA) : Prop :=
  Diff ms Δ Δ1 ∧ PA X es t ∧ ∀ s F H σ, Holds Δ s F H σ → Same F H → Conj cs s → ∀ Q : List V → Hp → Prop, (∀ vs F' H', Gr (MsAt ms σ) F H F' H' → Holds Δ1 s F' H' σ → RepAll F' ts vs (f s) → Q vs H') → t σ H Q
/-- an argument: data that stays, or an own object that is lent (the slot j) -/
inductive AK (K : PySem.W.Frag) (S : Type) : Type 1
  | fz (τ : Ty K) (h : S → τ.α)
  | mu (j : Nat)
def AkRep (F : Hp) (σ : L2.St) (s : S) : AK K S → V → Prop
  | .fz τ h, v => τ.rep F v (h s)
  | .mu j, v => σ[j]? = some (some v)
def AkAll (F : Hp) (σ : L2.St) (s : S) : List (AK K S) → List V → Prop
  | [], vs => vs = []
  | a :: as, vs => ∃ v r, vs = v :: r ∧ AkRep F σ s a v ∧ AkAll F σ s as r
def DA (K : PySem.W.Frag) (X : Cx) (Δ : Ctx K S) (es : List Expr) (ms : List Nat) (cs : List (S → Prop)) (Δ1 : Ctx K S) (as : List (AK K S)) (t : TA) : Prop :=
  Diff ms Δ Δ1 ∧ PA X es t ∧ ∀ s F H σ, Holds Δ s F H σ → Same F H → Conj cs s → ∀ Q : List V → Hp → Prop, (∀ vs F' H', Gr (MsAt ms σ) F H F' H' → Holds Δ1 s F' H' σ → AkAll F' σ s as vs → Q vs H') → t σ H Q
end
section
variable {ta tb : TE} {tx ty tz : TT} {tl : TA} {K : PySem.W.Frag} {X : Cx} {S : Type} {Δ Δ1 Δ2 Δ3 : Ctx K S} {e a b c : Expr} {es : List Expr} {pos p' : Pos} {τ σt τa τb τ1 τ2 : Ty K} {ts : List (Ty K)} {ω : OTy K} {m1 m2 m3 ms : List Nat} {c1 c2 c3 cs : List (S → Prop)}
theorem DL.nil : DL K X Δ [] τ [] [] Δ (fun _ => []) tNil := ⟨Diff.refl, pa_nil, fun s F H σ hh sm _ Q q => q [] F H (Gr.refl sm) hh .nil⟩
theorem DL.cons {f : S → τ.α} {g : S → List τ.α} (ha : DX K X Δ e τ m1 c1 Δ1 f ta) (hb : DL K X Δ1 es τ m2 c2 Δ2 g tl) (hs : starEach (e :: es) X.env = (false, eval e X.env) :: starEach es X.env := by rfl) : DL K X Δ (e :: es) τ (m1 ++ m2) (c1 ++ c2) Δ2 (fun s => f s :: g s) (tCons ta tl) := by
  obtain ⟨d1, pa, ra⟩ := ha
  obtain ⟨d2, pb, rb⟩ := hb
  refine ⟨d1.trans d2, pa_cons pa pb hs, fun s F H σ hh sm hc Q q => ?_⟩
  obtain ⟨h1, h2⟩ := conj_app hc
  refine ra s F H σ hh sm h1 _ fun v F1 H1 g1 hh1 r1 => ?_
  refine rb s F1 H1 σ hh1 g1.fh h2 _ fun vs F2 H2 g2 hh2 r2 => ?_
  exact q _ F2 H2 ((g1.mono (msAt_l (m2 := m2))).trans (g2.mono (msAt_r (m1 := m1)))) hh2 (.cons (τ.mono g2.ff r1) r2)
theorem DTs.nil : DTs K X Δ [] [] [] [] Δ (fun _ => ()) tNil := ⟨Diff.refl, pa_nil, fun s F H σ hh sm _ Q q => q [] F H (Gr.refl sm) hh rfl⟩
theorem DTs.one {f : S → τ.α} (ha : DX K X Δ e τ m1 c1 Δ1 f ta) (hs : starEach [e] X.env = (false, eval e X.env) :: starEach [] X.env := by rfl) : DTs K X Δ [e] [τ] m1 c1 Δ1 f (tCons ta tNil) := by
  obtain ⟨d1, pa, ra⟩ := ha
  refine ⟨d1, pa_cons pa pa_nil hs, fun s F H σ hh sm hc Q q => ?_⟩
  exact ra s F H σ hh sm hc _ fun v F1 H1 g1 hh1 r1 => q _ F1 H1 g1 hh1 ⟨v, rfl, r1⟩
theorem DTs.cons {f : S → τ.α} {g : S → HL (σt :: ts)} (ha : DX K X Δ e τ m1 c1 Δ1 f ta) (hb : DTs K X Δ1 es (σt :: ts) m2 c2 Δ2 g tl) (hs : starEach (e :: es) X.env = (false, eval e X.env) :: starEach es X.env := by rfl) : DTs K X Δ (e :: es) (τ :: σt :: ts) (m1 ++ m2) (c1 ++ c2) Δ2 (fun s => (f s, g s)) (tCons ta tl) := by
  obtain ⟨d1, pa, ra⟩ := ha
  obtain ⟨d2, pb, rb⟩ := hb
  refine ⟨d1.trans d2, pa_cons pa pb hs, fun s F H σ hh sm hc Q q => ?_⟩
  obtain ⟨h1, h2⟩ := conj_app hc
  refine ra s F H σ hh sm h1 _ fun v F1 H1 g1 hh1 r1 => ?_
  refine rb s F1 H1 σ hh1 g1.fh h2 _ fun vs F2 H2 g2 hh2 r2 => ?_
  exact q _ F2 H2 ((g1.mono (msAt_l (m2 := m2))).trans (g2.mono (msAt_r (m1 := m1)))) hh2 ⟨v, vs, rfl, τ.mono g2.ff r1, r2⟩
theorem DA.nil : DA K X Δ [] [] [] Δ [] tNil := ⟨Diff.refl, pa_nil, fun s F H σ hh sm _ Q q => q [] F H (Gr.refl sm) hh rfl⟩
theorem akRep_mono {F F' : Hp} {σ : L2.St} {s : S} (h : Same F F') : ∀ {a : AK K S} {v : V}, AkRep F σ s a v → AkRep F' σ s a v
  | .fz τ f, _, r => τ.mono h r
  | .mu j, _, r => r
theorem DA.cons {f : S → τ.α} {as : List (AK K S)} (ha : DX K X Δ e τ m1 c1 Δ1 f ta) (hb : DA K X Δ1 es m2 c2 Δ2 as tl) (hs : starEach (e :: es) X.env = (false, eval e X.env) :: starEach es X.env := by rfl) : DA K X Δ (e :: es) (m1 ++ m2) (c1 ++ c2) Δ2 (.fz τ f :: as) (tCons ta tl) := by
  obtain ⟨d1, pa, ra⟩ := ha
  obtain ⟨d2, pb, rb⟩ := hb
  refine ⟨d1.trans d2, pa_cons pa pb hs, fun s F H σ hh sm hc Q q => ?_⟩
  obtain ⟨h1, h2⟩ := conj_app hc
  refine ra s F H σ hh sm h1 _ fun v F1 H1 g1 hh1 r1 => ?_
  refine rb s F1 H1 σ hh1 g1.fh h2 _ fun vs F2 H2 g2 hh2 r2 => ?_
  exact q _ F2 H2 ((g1.mono (msAt_l (m2 := m2))).trans (g2.mono (msAt_r (m1 := m1)))) hh2 ⟨v, vs, rfl, τ.mono g2.ff r1, r2⟩
/-- an own object is lent -/
theorem DA.mu {x : Str} {j : Nat} {f : S → ω.τ.α} {as : List (AK K S)} (h : Δ[j]? = some (.ow ω f)) (hb : DA K X Δ es m2 c2 Δ2 as tl) (hN : X.N[j]? = some x := by rfl) (hv : Vis X.env.scope x := by first | exact Or.inl rfl | exact Or.inr (Or.inl rfl) | exact Or.inr (Or.inr rfl)) (hd : (x == ("__debug__" : Str)) = false := by decide)
    (hcd : (x == ("__classdict__" : Str)) = false := by decide) (hs : starEach (.Name x pos :: es) X.env = (false, eval (.Name x pos) X.env) :: starEach es X.env := by rfl) : DA K X Δ (.Name x pos :: es) m2 c2 Δ2 (.mu j :: as) (tCons (tVar j) tl) := by
  obtain ⟨d2, pb, rb⟩ := hb
  refine ⟨d2, pa_cons (pe_var hN hv hd hcd) pb hs, fun s F H σ hh sm hc Q q => ?_⟩
  have hi : j < σ.length := by rw [hh.len]; exact (List.getElem?_eq_some_iff.mp h).1
  obtain ⟨o, ho⟩ : ∃ o, σ[j]? = some o := ⟨_, List.getElem?_eq_getElem hi⟩
  obtain ⟨p, u, e, _⟩ := hh.at_ j _ o h ho
  refine ⟨.ref p, by rw [ho, e], rb s F H σ hh sm hc _ fun vs F2 H2 g2 hh2 r2 => ?_⟩
  exact q _ F2 H2 g2 hh2 ⟨.ref p, vs, rfl, (show σ[j]? = some (some (.ref p)) by rw [ho, e]), r2⟩

/-! #### displays -/
theorem DX.tup {x1 : Nat} {f : S → HL ts} (h : DTs K X Δ es ts ms cs Δ1 f tl) (hl : ts.length ≤ sizeLine := by decide) : DX K X Δ (.Tuple es x1 pos) (tTp ts) ms cs Δ1 f (L2.tTup tl) := by
  obtain ⟨d1, p, r⟩ := h
  refine ⟨d1, pe_tup p, fun s F H σ hh sm hc Q q => r s F H σ hh sm hc _ fun vs F1 H1 g1 hh1 r1 => ⟨by rw [r1.length]; exact hl, fun a n => ?_⟩⟩
  have g2 : Gr No F1 H1 (upd F1 a (.tup vs)) (upd H1 a (.tup vs)) := Gr.new g1.fh n
  exact q _ _ _ (g1.trans g2.of0) (hh1.grow g2) ⟨a, vs, rfl, upd_same, r1.mono g2.ff⟩
theorem DO.lst {f : S → List τ.α} (h : DL K X Δ es τ ms cs Δ1 f tl) (hl : ∀ s, (f s).length ≤ sizeLine := by intro _; decide) : DO K X Δ (.List es pos) (oList τ) ms cs Δ1 f (tLst tl) := by
  obtain ⟨d1, p, r⟩ := h
  refine ⟨d1, pe_lst p, fun s F H σ hh sm hc Q q => r s F H σ hh sm hc _ fun vs F1 H1 g1 hh1 r1 => ⟨by rw [r1.length]; exact hl s, fun a n => ?_⟩⟩
  obtain ⟨g2, fn, e3⟩ := own_of_new (ω := oList τ) (x := f s) g1.fh n ⟨vs, rfl, r1, hl s⟩
  exact q a _ F1 _ (g1.trans g2.of0) (hh1.grow g2) (g1.dom a n) fn e3 ⟨vs, rfl, r1, hl s⟩

/-! #### items -/
def ixI {α : Type} (d : α) (xs : List α) (i : Int) : α := if 0 ≤ i then xs.getD i.toNat d else xs.getD (i + xs.length).toNat d
def IxOk {α : Type} (xs : List α) (i : Int) : Prop := -(xs.length : Int) ≤ i ∧ i < xs.length
theorem paired_at {α β : Type} {R : α → β → Prop} : ∀ {xs : List α} {ys : List β} {i : Nat} {y : β}, Paired R xs ys → ys[i]? = some y → ∃ x, xs[i]? = some x ∧ R x y
  | _, _, _, _, .nil, h => by simp at h
  | _, _, 0, _, .cons r _, h => by simp at h; subst h; exact ⟨_, rfl, r⟩
  | _, _, i + 1, y, .cons _ t, h => by
    obtain ⟨x, e, r⟩ := paired_at (i := i) t (by simpa using h)
    exact ⟨x, by simpa using e, r⟩
theorem paired_at' {α β : Type} {R : α → β → Prop} : ∀ {xs : List α} {ys : List β} {i : Nat} {x : α}, Paired R xs ys → xs[i]? = some x → ∃ y, ys[i]? = some y ∧ R x y
  | _, _, _, _, .nil, h => by simp at h
  | _, _, 0, _, .cons r _, h => by simp at h; subst h; exact ⟨_, rfl, r⟩
  | _, _, i + 1, y, .cons _ t, h => by
    obtain ⟨x, e, r⟩ := paired_at' (i := i) t (by simpa using h)
    exact ⟨x, by simpa using e, r⟩
theorem ix_at {α : Type} {d : α} {xs : List α} {i : Int} (h : IxOk xs i) : ∃ j, ixN xs.length i = some j ∧ xs[j]? = some (ixI d xs i) := by
  obtain ⟨h1, h2⟩ := h
  unfold ixN ixI
  by_cases h0 : 0 ≤ i
  · rw [if_pos h0, if_pos h2, if_pos h0]
    refine ⟨i.toNat, rfl, ?_⟩
    have hl : i.toNat < xs.length := by omega
    rw [List.getD_eq_getElem?_getD, List.getElem?_eq_getElem hl]; rfl
  · rw [if_neg h0, if_neg h0, if_pos h1]
    refine ⟨(i + xs.length).toNat, rfl, ?_⟩
    have hl : (i + xs.length).toNat < xs.length := by omega
    rw [List.getD_eq_getElem?_getD, List.getElem?_eq_getElem hl]; rfl
theorem r2_ixL {L : Ty K} {to : L.α → List τ.α} (hl : LL L τ to) {d : τ.α} : R2ok K (rIxL K) L (tInt K) τ [fun x i => IxOk (to x) i] (fun x i => ixI d (to x) i) := fun x y v u F H sm r1 r2 hc Q q => by
  obtain ⟨p, vs, e, sq, pr, _⟩ := hl r1
  subst e r2
  obtain ⟨j, e1, e2⟩ := ix_at (d := d) hc.1
  obtain ⟨z, e3, rz⟩ := paired_at pr e2
  refine ⟨p, vs, y, z, rfl, rfl, sm.seq sq, ?_, q z F H (Gr.refl sm) rz⟩
  unfold atI
  rw [pr.length, e1]
  exact e3
/-- xs[i] -/
theorem DX.ix {L : Ty K} {to : L.α → List τ.α} (hl : LL L τ to) (d : τ.α) {f : S → L.α} {g : S → Int} (ha : DX K X Δ a L m1 c1 Δ1 f ta) (hb : DX K X Δ1 b (tInt K) m2 c2 Δ2 g tb) (hp : PlainIx b := by exact fun _ _ => rfl) (hK : X.K = K := by rfl) : DX K X Δ (.Subscript a b pos) τ (m1 ++ m2) (c1 ++ (c2 ++ [fun s => IxOk (to (f s)) (g s)])) Δ2 (fun s => ixI d (to (f s)) (g s)) (tOp (rIxL K) ta tb) := by
  subst hK
  exact DX.bin (r2_ixL hl) ha hb fun p q => pe_ix ix_list p q hp
/-- the k-th item of a tuple -/
inductive Proj {K : PySem.W.Frag} : (ts : List (Ty K)) → Nat → (τ : Ty K) → (HL ts → τ.α) → Prop
  | last {τ : Ty K} : Proj [τ] 0 τ (fun x => x)
  | zero {τ σ : Ty K} {ts : List (Ty K)} : Proj (τ :: σ :: ts) 0 τ (fun x => x.1)
  | succ {τ σ ρ : Ty K} {ts : List (Ty K)} {k : Nat} {g : HL (σ :: ts) → ρ.α} : Proj (σ :: ts) k ρ g → Proj (τ :: σ :: ts) (k + 1) ρ (fun x => g x.2)
theorem Proj.at {F : Hp} {k : Nat} {g : HL ts → τ.α} (h : Proj ts k τ g) : ∀ {vs : List V} {x : HL ts}, RepAll F ts vs x → ∃ v, vs[k]? = some v ∧ τ.rep F v (g x) := by
  induction h with
  | last => rintro vs x ⟨v, e, r⟩; exact ⟨v, by rw [e]; rfl, r⟩
  | zero => rintro vs x ⟨v, w, e, r, _⟩; exact ⟨v, by rw [e]; rfl, r⟩
  | succ _ ih =>
    rintro vs x ⟨v, w, e, _, r⟩
    obtain ⟨z, e2, r2⟩ := ih r
    exact ⟨z, by rw [e]; exact e2, r2⟩
/-- t[k], k written; t[-k] -/
theorem DX.tix {k j : Nat} {g : HL ts → τ.α} {f : S → HL ts} (ha : DX K X Δ a (tTp ts) m1 c1 Δ1 f ta) (h : Proj ts k τ g) (hp : PlainIx (.Constant (.int (k : Int)) j p') := by exact fun _ _ => rfl) (hK : X.K = K := by rfl) : DX K X Δ (.Subscript a (.Constant (.int (k : Int)) j p') pos) τ m1 c1 Δ1 (fun s => g (f s)) (tOp (rIxT K) ta (tC (.int (k : Int)))) := by
  subst hK
  obtain ⟨d1, pa, ra⟩ := ha
  refine ⟨d1, pe_ix ix_tup pa pe_int hp, fun s F H σ hh sm hc Q q => ra s F H σ hh sm hc _ fun v F1 H1 g1 hh1 ⟨p, vs, e, q1, r⟩ => ?_⟩
  obtain ⟨z, e2, rz⟩ := h.at r
  exact ⟨p, vs, k, z, e, rfl, .inl (.inl (g1.fh _ _ q1)), atI_nat e2, q z F1 H1 g1 hh1 rz⟩
theorem DX.tixN {k j : Nat} {p2 : Pos} {n : Nat} {g : HL ts → τ.α} {f : S → HL ts} (ha : DX K X Δ a (tTp ts) m1 c1 Δ1 f ta) (h : Proj ts k τ g) (hn : k + n = ts.length) (h0 : 0 < n) (hp : PlainIx (.UnaryOp .USub (.Constant (.int (n : Int)) j p2) p') := by exact fun _ _ => rfl) (hK : X.K = K := by rfl) : DX K X Δ (.Subscript a (.UnaryOp .USub (.Constant (.int (n : Int)) j p2) p') pos) τ m1 c1 Δ1 (fun s => g (f s)) (tOp (rIxT K) ta (tUn (rU fun i => .int (-i)) (tC (.int (n : Int))))) := by
  subst hK
  obtain ⟨d1, pa, ra⟩ := ha
  refine ⟨d1, pe_ix ix_tup pa (pe_un un_neg pe_int) hp, fun s F H σ hh sm hc Q q => ra s F H σ hh sm hc _ fun v F1 H1 g1 hh1 ⟨p, vs, e, q1, r⟩ => ?_⟩
  obtain ⟨z, e2, rz⟩ := h.at r
  refine ⟨n, rfl, p, vs, -n, z, e, rfl, .inl (.inl (g1.fh _ _ q1)), ?_, q z F1 H1 g1 hh1 rz⟩
  have hl := r.length
  unfold atI ixN
  rw [if_neg (by omega), if_pos (by omega)]
  show vs[(-(n : Int) + vs.length).toNat]? = some z
  rw [show (-(n : Int) + vs.length).toNat = k by omega]
  exact e2

/-! ### what a def promises -/
structure RoomG (k : Nat) (A : Around) : Prop where
  rm : Room k A
  gd : A.guards = some []
/-- a def keeps its promise where nothing is being shown -/
structure FnG (P : Program) (w : World) (K : PySem.W.Frag) (mg : Str → Option Value) (base : Heap) (CX : CXT) (k : Nat) (f : Addr) (fd : FuncData) (ps : List Str) (sp : Sp) : Prop where
  len : ∀ vs H Q E, sp vs H Q E → vs.length = ps.length
  run : ∀ (A : Around) (outer : List Env) (s : Shared) (H : Hp) (args : Args) (us : List Value) (vs : List V) (Q : VK) (E : XK), RoomG k A → Env0 P w K mg base A outer s H → BindsTo s fd args (ps.zip us) → Vals vs us → sp vs H Q E →
    codeAny (model P w) A (.call (.ref f) args) (CR CX outer P w H s Q E) s
theorem RoomG.mono {j k : Nat} {A : Around} (r : RoomG k A) (h : j ≤ k) : RoomG j A := ⟨r.rm.mono h, r.gd⟩
theorem RoomG.deeper {k : Nat} {A : Around} (r : RoomG (k + 1) A) (env : Env) : RoomG k (A.deeper env) := ⟨r.rm.deeper env, r.gd⟩
theorem FnG.mono {P : Program} {w : World} {K : PySem.W.Frag} {mg : Str → Option Value} {base : Heap} {CX : CXT} {j k : Nat} {f : Addr} {fd : FuncData} {ps : List Str} {sp : Sp} (F : FnG P w K mg base CX j f fd ps sp) (h : j ≤ k) : FnG P w K mg base CX k f fd ps sp :=
  ⟨F.len, fun A outer s H args us vs Q E hr => F.run A outer s H args us vs Q E (hr.mono h)⟩
/-- a def by its body -/
theorem fn_g {CX : CXT} {P : Program} {w : World} {mg : Str → Option Value} {base : Heap} {x qual : Str} {st : Stmt} {f : Addr} {fd : FuncData} {N ps : List Str} {k : Nat} {sp : Sp} (F : Fun K x qual st f fd) (Sc : FnScope N ps (defScope st)) (len : ∀ vs H Q E, sp vs H Q E → vs.length = ps.length)
    (hbody : ∀ (cdv : Value) (A : Around) (outer : List Env) (s : Shared) (H : Hp) (vs : List V) (Q : VK) (E : XK), RoomG k (A.deeper (envOfC qual (defScope st) s.heap.objs.size f cdv)) → sp vs H Q E →
      ∃ t, PSs (cxOf CX P w K mg base N qual (defScope st) f cdv A outer s H E) (defBody st) t ∧ t { nx := fun _ H' => Q .non H', rt := Q } (start N vs) H) : FnG P w K mg base CX (k + 1) f fd ps sp := by
  obtain ⟨oc, od, kV, doc, pm, an, cdv, ct, osl, rfl, lk, hcd⟩ := F.ex
  refine ⟨len, fun A outer s H args us vs Q E hr e0 hb rv hsp => ?_⟩
  have KX : K.In s.heap := e0.mod.kin.keeps fun b o e => (e0.bs b o e).1
  refine codeAny_call_function hr.rm.depth (KX _ _ lk) rfl Sc.co Sc.gen rfl (PySem.W.codeRec_of KX hcd) (hb _ _ _ _ ?_)
  refine wpAny_newFunctionEnv_cells Sc.kind (fun z hz => ?_) fun env he s1 y => ?_
  · obtain ⟨n, v⟩ := z
    rcases Sc.par n (List.of_mem_zip hz).1 with q | q
    · exact .inl q
    · exact .inr ⟨q, PySem.W.cellsFrom_some _ _ _ (.inl q)⟩
  subst he
  refine ⟨(e0.mod.nolimit.keeps fun b o e => (e0.bs b o e).1 : s.heap.NoLimit).keeps y.toInCall.keep, codeAny_func ?_⟩
  obtain ⟨t, ht, hq⟩ := hbody cdv A outer s H vs Q E (hr.deeper _) hsp
  have I := inv_start (CX := CX) (f := f) (E := E) Sc hr.rm.hd e0 (len _ _ _ _ hsp) rv y
  refine wpAny_mono (ht.run [] s1 (start N vs) H _ I hq) (fun fl s' hs => ?_) fun _ _ z => z
  cases fl with
  | ret u => obtain ⟨v, σ', H', J, r2, q⟩ := hs; exact ⟨v, H', J.os, J.bare, J.base, J.hok, r2, q⟩
  | next => obtain ⟨σ', H', J, q⟩ := hs; exact ⟨V.non, H', J.os, J.bare, J.base, J.hok, rfl, q⟩
  | brk => obtain ⟨_, _, _, z⟩ := hs; exact False.elim z
  | cont => obtain ⟨_, _, _, z⟩ := hs; exact False.elim z
/-- the call of a def by its name -/
theorem pe_callg {CX : CXT} {k : Nat} {f : Addr} {fd : FuncData} {ps : List Str} {sp : Sp} {E : XK} {x : Str} {p : Pos} {t : TA} (G : FnG X.prog X.w X.K X.mg X.base CX k f fd ps sp) (hr : RoomG k X.A) (hg : Gl X x) (hm : X.mg x = some (.ref f)) (hk : PySem.W.keepIn X.K (.ref f) = true) (hb : Binds X.K fd ps []) (hx : Passes CX X E)
    (ha : PA X (e :: es) t) (hdb : (x == ("__debug__" : Str)) = false := by decide) (he : starEach (e :: es) X.env = (false, eval e X.env) :: starEach es X.env := by rfl) (hpl : (backTo pos (starEach es X.env)).any (·.1) = false := by rfl) :
    PE X (.Call (.Name x p) (e :: es) [] pos) (tCall sp [] E t) := by
  refine ⟨fun pins s σ H Q I h => wpAny_Call_Name_kw (ld_glob I hg hm ?_ hdb)⟩
  refine PySem.W.callWith_K (h₀ := X.base) I.ok.mod.kin hk (thn (ha.run pos pins s σ H _ I h) fun us s1 ⟨vs, H1, I1, r, q⟩ => ⟨I1.kIn, ?_⟩) he hpl
  have q' : sp vs H1 Q E := by rw [← List.append_nil vs]; exact q
  have hl : (us ++ ([] : List Value)).length = ps.length := by rw [List.append_nil, ← r.length]; exact G.len _ _ _ _ q'
  have hbd := hb s1 us I1.kIn hl
  rw [List.append_nil] at hbd
  refine wpAny_call (codeAny_mono (G.run X.A X.stack s1 H1 ⟨us, []⟩ us vs Q E hr I1.env0 hbd r q') fun res s' hq => ?_)
  cases res with
  | error e => exact hx pins σ H1 s1 e s' I1 hq
  | ok fl => cases fl with
    | ret u => exact I1.after hq
    | next => exact hq.elim
    | brk => exact hq.elim
    | cont => exact hq.elim
end
end Dx

/-! Dx, part D: statements, promises over data, loops. -/
namespace Dx
open PySem PySem.Spec PyProof.Rows L2

/-! ### what the statements of a block do -/
section
variable {K : PySem.W.Frag} {S T : Type}
def Own (Δ : Ctx K S) (σ : L2.St) (a : Addr) : Prop := ∃ (i : Nat) (ω : OTy K) (f : S → ω.τ.α), Δ[i]? = some (.ow ω f) ∧ σ[i]? = some (some (.ref a))
/-- behind a block that gave something back -/
structure GrR (Δ : Ctx K S) (σ : L2.St) (F H F1 H1 : Hp) : Prop where
  ff : Same F F1
  fh : Same F1 H1
  fresh : ∀ a o, F1 a = some o → F a = some o ∨ H a = none ∨ Own Δ σ a
  keep : ∀ a o, H a = some o → ¬ Own Δ σ a → H1 a = some o
  dom : ∀ a, H1 a = none → H a = none
/-- behind a block that goes on; mus: the slots that stay -/
structure GrS {S T : Type} (mus : List Nat) (Δ : Ctx K S) (σ : L2.St) (Δ1 : Ctx K T) (σ1 : L2.St) (F H F1 H1 : Hp) : Prop extends GrR Δ σ F H F1 H1 where
  own : ∀ a, Own Δ1 σ1 a → Own Δ σ a ∨ H a = none
  mu : ∀ k ∈ mus, σ1[k]? = σ[k]?
section
variable {U : Type} {mus : List Nat} {Δ : Ctx K S} {Δ1 : Ctx K T} {Δ2 : Ctx K U} {σ σ1 σ2 : L2.St} {F H F1 H1 F2 H2 : Hp}
theorem GrS.reflC (h : Same F H) (hm : ∀ a, Own Δ1 σ a → Own Δ σ a) : GrS mus Δ σ Δ1 σ F H F H := ⟨⟨Same.refl F, h, fun _ _ h => .inl h, fun _ _ h _ => h, fun _ h => h⟩, fun a h => .inl (hm a h), fun _ _ => rfl⟩
theorem GrS.refl (h : Same F H) : GrS mus Δ σ Δ σ F H F H := .reflC h fun _ h => h
theorem GrR.after (a : GrS mus Δ σ Δ1 σ1 F H F1 H1) (b : GrR Δ1 σ1 F1 H1 F2 H2) : GrR Δ σ F H F2 H2 where
  ff := a.ff.trans b.ff
  fh := b.fh
  fresh := fun x o h => by
    rcases b.fresh x o h with z | z | z
    · exact a.fresh x o z
    · exact .inr (.inl (a.dom x z))
    · rcases a.own x z with y | y
      · exact .inr (.inr y)
      · exact .inr (.inl y)
  keep := fun x o h n => b.keep x o (a.keep x o h n) fun z => by
    rcases a.own x z with y | y
    · exact n y
    · rw [h] at y; cases y
  dom := fun x h => a.dom x (b.dom x h)
theorem GrS.trans (a : GrS mus Δ σ Δ1 σ1 F H F1 H1) (b : GrS mus Δ1 σ1 Δ2 σ2 F1 H1 F2 H2) : GrS mus Δ σ Δ2 σ2 F H F2 H2 :=
  { GrR.after a b.toGrR with
    own := fun x h => by
      rcases b.own x h with z | z
      · exact a.own x z
      · exact .inr (a.dom x z)
    mu := fun k h => (b.mu k h).trans (a.mu k h) }
/-- an expression of a block, that changes what the slots ms hold -/
theorem GrS.ofGr {ms : List Nat} {Δ1 : Ctx K S} {s : S} (d : Diff ms Δ Δ1) (hh : Holds Δ s F H σ) (hm : ∀ i ∈ ms, ∃ (ω : OTy K) (f : S → ω.τ.α), Δ[i]? = some (.ow ω f)) (g : Gr (MsAt ms σ) F H F1 H1) : GrS mus Δ σ Δ1 σ F H F1 H1 where
  ff := g.ff
  fh := g.fh
  fresh := fun a o h => (g.fresh a o h).elim .inl fun z => .inr (.inl z)
  keep := fun a o h n => g.keep a o h fun ⟨i, hi, e⟩ => n (by obtain ⟨ω, f, h⟩ := hm i hi; exact ⟨i, ω, f, h, e⟩)
  dom := g.dom
  own := fun a ⟨i, ω, f, h, e⟩ => .inl (by obtain ⟨ω', f', h'⟩ := d.own i ω f h; exact ⟨i, ω', f', h', e⟩)
  mu := fun _ _ => rfl
end
/-- what a def hands back: data that stays, or a new object of one's own -/
inductive RK (K : PySem.W.Frag) : Type 1
  | fz (τ : Ty K)
  | ow (ω : OTy K)
def RK.α : RK K → Type
  | .fz τ => τ.α
  | .ow ω => ω.τ.α
def RetOk (Fr : Addr → Prop) (F1 H1 : Hp) : (ρ : RK K) → V → ρ.α → Prop
  | .fz τ, v, x => τ.rep F1 v x
  | .ow ω, v, x => ∃ p u, v = .ref p ∧ Fr p ∧ F1 p = none ∧ H1 p = some u ∧ ω.own F1 u x
theorem RetOk.dom {Fr Fr' : Addr → Prop} {F1 H1 : Hp} (h : ∀ a, Fr a → Fr' a) : ∀ {ρ : RK K} {v : V} {x : ρ.α}, RetOk Fr F1 H1 ρ v x → RetOk Fr' F1 H1 ρ v x
  | .fz _, _, _, r => r
  | .ow _, _, _, ⟨p, u, e, n, r⟩ => ⟨p, u, e, h p n, r⟩
/-- new, or an own one that is no parameter -/
def Fresh (mus : List Nat) (Δ : Ctx K S) (σ : L2.St) (H : Hp) (p : Addr) : Prop := (H p = none ∨ Own Δ σ p) ∧ ∀ j ∈ mus, σ[j]? ≠ some (some (.ref p))
theorem Fresh.back {mus : List Nat} {Δ : Ctx K S} {Δ1 : Ctx K T} {σ σ1 : L2.St} {F H F1 H1 : Hp} (g : GrS mus Δ σ Δ1 σ1 F H F1 H1) {p : Addr} (h : Fresh mus Δ1 σ1 H1 p) : Fresh mus Δ σ H p := by
  obtain ⟨h1, h2⟩ := h
  refine ⟨?_, fun j m => by rw [← g.mu j m]; exact h2 j m⟩
  rcases h1 with z | z
  · exact .inl (g.dom p z)
  · exact (g.own p z).symm
/-- parameters: data that stays; an own object of the caller's that is changed -/
inductive PK (K : PySem.W.Frag) : Type 1
  | fz (τ : Ty K)
  | mu (ω : OTy K)
def PK.C : PK K → Type
  | .fz τ => τ.α
  | .mu ω => ω.τ.α
def HP : List (PK K) → Type
  | [] => Unit
  | p :: ps => p.C × HP ps
def HM : List (PK K) → Type
  | [] => Unit
  | .fz _ :: ps => HM ps
  | .mu ω :: ps => ω.τ.α × HM ps
def ctx0 : (ps : List (PK K)) → Ctx K (HP ps)
  | [] => []
  | .fz τ :: ps => .fz τ (fun s => s.1) :: (ctx0 ps).map (Slot.comap fun s => s.2)
  | .mu ω :: ps => .ow ω (fun s => s.1) :: (ctx0 ps).map (Slot.comap fun s => s.2)
def MuOk (F1 H1 : Hp) (σ : L2.St) : Nat → (ps : List (PK K)) → HM ps → Prop
  | _, [], _ => True
  | k, .fz _ :: ps, x => MuOk F1 H1 σ (k + 1) ps x
  | k, .mu ω :: ps, x => (∃ p u, σ[k]? = some (some (.ref p)) ∧ F1 p = none ∧ H1 p = some u ∧ ω.own F1 u x.1) ∧ MuOk F1 H1 σ (k + 1) ps x.2
def musOf : Nat → List (PK K) → List Nat
  | _, [] => []
  | k, .fz _ :: ps => musOf (k + 1) ps
  | k, .mu _ :: ps => k :: musOf (k + 1) ps
theorem MuOk.congr {F1 H1 : Hp} {σ σ' : L2.St} : ∀ {ps : List (PK K)} {k : Nat} {x : HM ps}, (∀ j ∈ musOf k ps, σ'[j]? = σ[j]?) → MuOk F1 H1 σ' k ps x → MuOk F1 H1 σ k ps x
  | [], _, _, _, _ => trivial
  | .fz _ :: ps, k, x, h, r => MuOk.congr (ps := ps) h r
  | .mu ω :: ps, k, x, h, ⟨⟨p, u, e, r⟩, t⟩ => ⟨⟨p, u, by rw [← h k (List.mem_cons_self ..)]; exact e, r⟩, MuOk.congr (ps := ps) (fun j m => h j (List.mem_cons_of_mem _ m)) t⟩
/-- the values of the parameters that are changed, at a return -/
inductive MuF (Δ : Ctx K S) : Nat → (ps : List (PK K)) → (S → HM ps) → Prop
  | nil {k : Nat} : MuF Δ k [] (fun _ => ())
  | fz {k : Nat} {τ : Ty K} {ps : List (PK K)} {g : S → HM ps} : MuF Δ (k + 1) ps g → MuF Δ k (.fz τ :: ps) g
  | mu {k : Nat} {ω : OTy K} {ps : List (PK K)} {h : S → ω.τ.α} {g : S → HM ps} : Δ[k]? = some (.ow ω h) → MuF Δ (k + 1) ps g → MuF Δ k (.mu ω :: ps) (fun s => (h s, g s))
theorem MuF.ok {Δ : Ctx K S} {s : S} {F H : Hp} {σ : L2.St} (hh : Holds Δ s F H σ) {k : Nat} {ps : List (PK K)} {g : S → HM ps} (h : MuF Δ k ps g) : MuOk F H σ k ps (g s) := by
  induction h with
  | nil => trivial
  | fz _ ih => exact ih
  | @mu k ω ps h g e _ ih =>
    refine ⟨?_, ih⟩
    have hi : k < σ.length := by rw [hh.len]; exact (List.getElem?_eq_some_iff.mp e).1
    obtain ⟨o, ho⟩ : ∃ o, σ[k]? = some o := ⟨_, List.getElem?_eq_getElem hi⟩
    obtain ⟨p, u, e2, n, hp, w⟩ := hh.at_ k _ o e ho
    exact ⟨p, u, by rw [ho, e2], n, hp, w⟩

variable (K) in
/-- the form of a def's end: parameters, what is handed back, and how they lie in its Lean value -/
structure Fm (R : Type) where
  ps : List (PK K)
  ret : RK K
  res : R → ret.α
  mv : R → HM ps
/-- a statement; a block; a block that returns; one that may -/
def DS (K : PySem.W.Frag) (X : Cx) (mus : List Nat) (Δ : Ctx K S) (st : Stmt) (cs : List (S → Prop)) (Δ1 : Ctx K S) : Prop :=
  ∃ t : TS, PS X st t ∧ ∀ s F H σ, Holds Δ s F H σ → Same F H → Conj cs s → ∀ D : Ends, (∀ σ1 F1 H1, GrS mus Δ σ Δ1 σ1 F H F1 H1 → Holds Δ1 s F1 H1 σ1 → D.nx σ1 H1) → t D σ H
def DN (K : PySem.W.Frag) (X : Cx) (mus : List Nat) (Δ : Ctx K S) (sts : List Stmt) (cs : List (S → Prop)) (Δ1 : Ctx K S) : Prop :=
  ∃ t : TS, PSs X sts t ∧ ∀ s F H σ, Holds Δ s F H σ → Same F H → Conj cs s → ∀ D : Ends, (∀ σ1 F1 H1, GrS mus Δ σ Δ1 σ1 F H F1 H1 → Holds Δ1 s F1 H1 σ1 → D.nx σ1 H1) → t D σ H
def Ret {R : Type} (fm : Fm K R) (Δ : Ctx K S) (σ : L2.St) (F H : Hp) (x : R) (rt : VK) : Prop :=
  ∀ v F1 H1, GrR Δ σ F H F1 H1 → RetOk (Fresh (musOf 0 fm.ps) Δ σ H) F1 H1 fm.ret v (fm.res x) → MuOk F1 H1 σ 0 fm.ps (fm.mv x) → rt v H1
def DR (K : PySem.W.Frag) (X : Cx) {R : Type} (fm : Fm K R) (Δ : Ctx K S) (sts : List Stmt) (cs : List (S → Prop)) (f : S → R) : Prop :=
  ∃ t : TS, PSs X sts t ∧ ∀ s F H σ, Holds Δ s F H σ → Same F H → Conj cs s → ∀ D : Ends, Ret fm Δ σ F H (f s) D.rt → t D σ H
def DSm (K : PySem.W.Frag) (X : Cx) {R : Type} (fm : Fm K R) (Δ : Ctx K S) (st : Stmt) (cs : List (S → Prop)) (r : S → Option R) (Δ1 : Ctx K S) : Prop :=
  ∃ t : TS, PS X st t ∧ ∀ s F H σ, Holds Δ s F H σ → Same F H → Conj cs s → ∀ D : Ends, (∀ x, r s = some x → Ret fm Δ σ F H x D.rt) → (r s = none → ∀ σ1 F1 H1, GrS (musOf 0 fm.ps) Δ σ Δ1 σ1 F H F1 H1 → Holds Δ1 s F1 H1 σ1 → D.nx σ1 H1) → t D σ H
def DM (K : PySem.W.Frag) (X : Cx) {R : Type} (fm : Fm K R) (Δ : Ctx K S) (sts : List Stmt) (cs : List (S → Prop)) (r : S → Option R) (Δ1 : Ctx K S) : Prop :=
  ∃ t : TS, PSs X sts t ∧ ∀ s F H σ, Holds Δ s F H σ → Same F H → Conj cs s → ∀ D : Ends, (∀ x, r s = some x → Ret fm Δ σ F H x D.rt) → (r s = none → ∀ σ1 F1 H1, GrS (musOf 0 fm.ps) Δ σ Δ1 σ1 F H F1 H1 → Holds Δ1 s F1 H1 σ1 → D.nx σ1 H1) → t D σ H
end
section
variable {K : PySem.W.Frag} {X : Cx} {S R : Type} {fm : Fm K R} {Δ Δ1 Δ2 Δ3 : Ctx K S} {st : Stmt} {sts : List Stmt} {e a b c : Expr} {pos p' : Pos} {τ : Ty K} {ω : OTy K} {mus ms m1 m2 : List Nat} {c1 c2 c3 cs : List (S → Prop)} {ta tb : TE} {tx : TT}
theorem Ret.back {σ σ1 : L2.St} {F H F1 H1 : Hp} {x : R} {rt : VK} (r : Ret fm Δ σ F H x rt) (g : GrS (musOf 0 fm.ps) Δ σ Δ1 σ1 F H F1 H1) : Ret fm Δ1 σ1 F1 H1 x rt := fun v F2 H2 g2 ro mo =>
  r v F2 H2 (GrR.after g g2) (ro.dom fun _ => Fresh.back g) (mo.congr fun j h => g.mu j h)
theorem DN.nil : DN K X mus Δ [] [] Δ := ⟨_, pss_nil, fun s F H σ hh sm _ D q => q σ F H (GrS.refl sm) hh⟩
theorem DN.cons (h1 : DS K X mus Δ st c1 Δ1) (h2 : DN K X mus Δ1 sts c2 Δ2) : DN K X mus Δ (st :: sts) (c1 ++ c2) Δ2 := by
  obtain ⟨t1, p1, r1⟩ := h1
  obtain ⟨t2, p2, r2⟩ := h2
  refine ⟨_, pss_cons p1 p2, fun s F H σ hh sm hc D q => ?_⟩
  obtain ⟨k1, k2⟩ := conj_app hc
  exact r1 s F H σ hh sm k1 _ fun σ1 F1 H1 g1 hh1 => r2 s F1 H1 σ1 hh1 g1.fh k2 D fun σ2 F2 H2 g2 hh2 => q σ2 F2 H2 (g1.trans g2) hh2
theorem DR.cons {f : S → R} (h1 : DS K X (musOf 0 fm.ps) Δ st c1 Δ1) (h2 : DR K X fm Δ1 sts c2 f) : DR K X fm Δ (st :: sts) (c1 ++ c2) f := by
  obtain ⟨t1, p1, r1⟩ := h1
  obtain ⟨t2, p2, r2⟩ := h2
  refine ⟨_, pss_cons p1 p2, fun s F H σ hh sm hc D q => ?_⟩
  obtain ⟨k1, k2⟩ := conj_app hc
  exact r1 s F H σ hh sm k1 _ fun σ1 F1 H1 g1 hh1 => r2 s F1 H1 σ1 hh1 g1.fh k2 D (q.back g1)
theorem DM.cons {r : S → Option R} (h1 : DS K X (musOf 0 fm.ps) Δ st c1 Δ1) (h2 : DM K X fm Δ1 sts c2 r Δ2) : DM K X fm Δ (st :: sts) (c1 ++ c2) r Δ2 := by
  obtain ⟨t1, p1, r1⟩ := h1
  obtain ⟨t2, p2, r2⟩ := h2
  refine ⟨_, pss_cons p1 p2, fun s F H σ hh sm hc D q1 q2 => ?_⟩
  obtain ⟨k1, k2⟩ := conj_app hc
  exact r1 s F H σ hh sm k1 _ fun σ1 F1 H1 g1 hh1 => r2 s F1 H1 σ1 hh1 g1.fh k2 D (fun x e => (q1 x e).back g1) fun e σ2 F2 H2 g2 hh2 => q2 e σ2 F2 H2 (g1.trans g2) hh2
/-- conditions where the statement ahead did not return -/
def guardN {S R : Type} (r : S → Option R) (cs : List (S → Prop)) : List (S → Prop) := cs.map fun c s => r s = none → c s
theorem guardN_conj {r : S → Option R} {s : S} (h : r s = none) : ∀ {cs : List (S → Prop)}, Conj (guardN r cs) s → Conj cs s
  | [], _ => trivial
  | c :: cs, q => ⟨q.1 h, guardN_conj h (cs := cs) q.2⟩
def orElse {R : Type} (o : Option R) (x : R) : R := match o with | some y => y | none => x
def orElseO {R : Type} (o x : Option R) : Option R := match o with | some y => some y | none => x
theorem DR.consM {f : S → R} {r : S → Option R} (h1 : DSm K X fm Δ st c1 r Δ1) (h2 : DR K X fm Δ1 sts c2 f) : DR K X fm Δ (st :: sts) (c1 ++ [fun s => r s = none → Conj c2 s]) (fun s => orElse (r s) (f s)) := by
  obtain ⟨t1, p1, r1⟩ := h1
  obtain ⟨t2, p2, r2⟩ := h2
  refine ⟨_, pss_cons p1 p2, fun s F H σ hh sm hc D q => ?_⟩
  obtain ⟨k1, k2⟩ := conj_app hc
  refine r1 s F H σ hh sm k1 _ (fun x e => ?_) fun e σ1 F1 H1 g1 hh1 => r2 s F1 H1 σ1 hh1 g1.fh (k2.1 e) D ?_
  · simp only [e, orElse] at q; exact q
  · simp only [e, orElse] at q; exact q.back g1
theorem DM.consM {r r2 : S → Option R} (h1 : DSm K X fm Δ st c1 r Δ1) (h2 : DM K X fm Δ1 sts c2 r2 Δ2) : DM K X fm Δ (st :: sts) (c1 ++ [fun s => r s = none → Conj c2 s]) (fun s => orElseO (r s) (r2 s)) Δ2 := by
  obtain ⟨t1, p1, q1⟩ := h1
  obtain ⟨t2, p2, q2⟩ := h2
  refine ⟨_, pss_cons p1 p2, fun s F H σ hh sm hc D w1 w2 => ?_⟩
  obtain ⟨k1, k2⟩ := conj_app hc
  refine q1 s F H σ hh sm k1 _ (fun x e => ?_) fun e σ1 F1 H1 g1 hh1 => q2 s F1 H1 σ1 hh1 g1.fh (k2.1 e) D (fun x e2 => ?_) fun e2 σ2 F2 H2 g2 hh2 => ?_
  · exact w1 x (by simp only [e, orElseO])
  · exact (w1 x (by simp only [e, orElseO]; exact e2)).back g1
  · exact w2 (by simp only [e, orElseO]; exact e2) σ2 F2 H2 (g1.trans g2) hh2
/-- a block that returns ends a block that may -/
theorem DM.ofR {f : S → R} (h : DR K X fm Δ sts cs f) : DM K X fm Δ sts cs (fun s => some (f s)) Δ1 := by
  obtain ⟨t, p, r⟩ := h
  exact ⟨t, p, fun s F H σ hh sm hc D q1 _ => r s F H σ hh sm hc D (q1 _ rfl)⟩
theorem DM.ofN (h : DN K X (musOf 0 fm.ps) Δ sts cs Δ1) : DM K X fm Δ sts cs (fun _ => none) Δ1 := by
  obtain ⟨t, p, r⟩ := h
  exact ⟨t, p, fun s F H σ hh sm hc D _ q2 => r s F H σ hh sm hc D (q2 rfl)⟩

/-! #### return -/
theorem musOf_own {s : S} {F H : Hp} {σ : L2.St} (hh : Holds Δ s F H σ) : ∀ {ps : List (PK K)} {k : Nat} {g : S → HM ps}, MuF Δ k ps g → ∀ j ∈ musOf k ps, ∃ (ω : OTy K) (f : S → ω.τ.α), Δ[j]? = some (.ow ω f)
  | [], _, _, _, _, h => nomatch h
  | .fz _ :: ps, k, g, .fz t, j, h => musOf_own hh t j h
  | .mu ω :: ps, k, _, .mu e t, j, h => by
    rcases List.mem_cons.mp h with z | z
    · subst z; exact ⟨_, _, e⟩
    · exact musOf_own hh t j z
/-- what is handed back is the Lean value's part -/
structure ResF (fm : Fm K R) (ρ : RK K) (f : S → R) (fe : S → ρ.α) (g : S → HM fm.ps) : Prop where
  kind : fm.ret = ρ
  val : ∀ s, HEq (fm.res (f s)) (fe s)
  mus : ∀ s, fm.mv (f s) = g s
theorem ResF.ok {ρ : RK K} {f : S → R} {fe : S → ρ.α} {g : S → HM fm.ps} (h : ResF fm ρ f fe g) {s : S} {Fr : Addr → Prop} {F1 H1 : Hp} {v : V} (r : RetOk Fr F1 H1 ρ v (fe s)) : RetOk Fr F1 H1 fm.ret v (fm.res (f s)) := by
  have := h.val s
  revert this
  generalize fm.res (f s) = z
  revert z
  rw [h.kind]
  intro z hz
  rw [eq_of_heq hz]
  exact r
theorem DR.ret {f : S → R} {fe : S → τ.α} {g : S → HM fm.ps} (he : DX K X Δ e τ ms c1 Δ1 fe ta) (hm : ∀ i ∈ ms, ∃ (ω : OTy K) (f : S → ω.τ.α), Δ[i]? = some (.ow ω f)) (hg : MuF Δ1 0 fm.ps g) (hr : ResF fm (.fz τ) f fe g) : DR K X fm Δ [.Return (some e) pos] c1 f := by
  obtain ⟨d1, p, r⟩ := he
  refine ⟨_, pss_one (ps_ret p), fun s F H σ hh sm hc D q => r s F H σ hh sm hc _ fun v F1 H1 g1 hh1 r1 => ?_⟩
  exact q v F1 H1 (GrS.ofGr (mus := []) d1 hh hm g1).toGrR (hr.ok (show RetOk _ F1 H1 (.fz τ) v (fe s) from r1)) (by rw [hr.mus]; exact hg.ok hh1)
theorem DR.retO {f : S → R} {fe : S → ω.τ.α} {g : S → HM fm.ps} (he : DO K X Δ e ω ms c1 Δ1 fe ta) (hm : ∀ i ∈ ms, ∃ (ω : OTy K) (f : S → ω.τ.α), Δ[i]? = some (.ow ω f)) (hg : MuF Δ1 0 fm.ps g) (hr : ResF fm (.ow ω) f fe g) : DR K X fm Δ [.Return (some e) pos] c1 f := by
  obtain ⟨d1, p, r⟩ := he
  refine ⟨_, pss_one (ps_ret p), fun s F H σ hh sm hc D q => r s F H σ hh sm hc _ fun p u F1 H1 g1 hh1 n1 n2 e1 o1 => ?_⟩
  have gs := GrS.ofGr (mus := musOf 0 fm.ps) d1 hh hm g1
  refine q _ F1 H1 gs.toGrR (hr.ok ⟨p, u, rfl, ⟨.inl n1, fun j hj z => ?_⟩, n2, e1, o1⟩) (by rw [hr.mus]; exact hg.ok hh1)
  obtain ⟨ω', f', h'⟩ := musOf_own hh1 hg j hj
  obtain ⟨ω2, f2, h2⟩ := d1.own j ω' f' h'
  obtain ⟨q2, u2, e2, _, hp2, _⟩ := hh.at_ j _ _ h2 z
  cases e2
  rw [n1] at hp2
  cases hp2
/-- an own object that stands at a name (no parameter) is handed back -/
theorem DR.retN {f : S → R} {i : Nat} {x : Str} {fe : S → ω.τ.α} {g : S → HM fm.ps} (h : Δ[i]? = some (.ow ω fe)) (hi : i ∉ musOf 0 fm.ps) (hg : MuF Δ 0 fm.ps g) (hr : ResF fm (.ow ω) f fe g) (hN : X.N[i]? = some x := by rfl) (hv : Vis X.env.scope x := by first | exact Or.inl rfl | exact Or.inr (Or.inl rfl) | exact Or.inr (Or.inr rfl)) (hd : (x == ("__debug__" : Str)) = false := by decide)
    (hcd : (x == ("__classdict__" : Str)) = false := by decide) : DR K X fm Δ [.Return (some (.Name x p')) pos] [] f := by
  refine ⟨_, pss_one (ps_ret (pe_var hN hv hd hcd)), fun s F H σ hh sm hc D q => ?_⟩
  have hl : i < σ.length := by rw [hh.len]; exact (List.getElem?_eq_some_iff.mp h).1
  obtain ⟨o, ho⟩ : ∃ o, σ[i]? = some o := ⟨_, List.getElem?_eq_getElem hl⟩
  obtain ⟨p, u, e, n, hp, w⟩ := hh.at_ i _ o h ho
  subst e
  refine ⟨.ref p, ho, q _ F H (GrS.refl (mus := []) sm).toGrR (hr.ok ⟨p, u, rfl, ⟨.inr ⟨i, ω, fe, h, ho⟩, fun j hj z => ?_⟩, n, hp, w⟩) (by rw [hr.mus]; exact hg.ok hh)⟩
  obtain ⟨ω', f', h'⟩ := musOf_own hh hg j hj
  exact hh.sep i j ω ω' fe f' p (fun e => hi (e ▸ hj)) h h' ho z
/-- a def's body -/
def DB (K : PySem.W.Frag) (X : Cx) {R : Type} (fm : Fm K R) (Δ : Ctx K S) (sts : List Stmt) (cs : List (S → Prop)) (f : S → R) : Prop :=
  ∃ t : TS, PSs X sts t ∧ ∀ s F H σ, Holds Δ s F H σ → Same F H → Conj cs s → ∀ Q : VK, Ret fm Δ σ F H (f s) Q → t { nx := fun _ H' => Q .non H', rt := Q } σ H
theorem DB.ofR {f : S → R} (h : DR K X fm Δ sts cs f) : DB K X fm Δ sts cs f := by
  obtain ⟨t, p, r⟩ := h
  exact ⟨t, p, fun s F H σ hh sm hc Q q => r s F H σ hh sm hc _ q⟩
/-- the end of the body without a return: None -/
theorem DB.ofN {f : S → R} {g : S → HM fm.ps} (he : DN K X (musOf 0 fm.ps) Δ sts c1 Δ1) (hg : MuF Δ1 0 fm.ps g) (hr : ResF fm (.fz (tNone K)) f (fun _ => ()) g) : DB K X fm Δ sts c1 f := by
  obtain ⟨t, p, r⟩ := he
  refine ⟨t, p, fun s F H σ hh sm hc Q q => r s F H σ hh sm hc _ fun σ1 F1 H1 g1 hh1 => ?_⟩
  exact q .non F1 H1 g1.toGrR (hr.ok (show RetOk _ F1 H1 (.fz (tNone K)) .non () from rfl)) (by rw [hr.mus]; exact (hg.ok hh1).congr fun j h => g1.mu j h)
end
end Dx

/-! Dx, part E: stores, if, methods that change. -/
namespace Dx
open PySem PySem.Spec PyProof.Rows L2
section
variable {K : PySem.W.Frag} {S : Type} {Δ Δ1 : Ctx K S} {s : S} {F H F1 H1 : Hp} {σ : L2.St} {i : Nat} {τ : Ty K} {ω : OTy K} {mus : List Nat}
def OwnAll (Δ : Ctx K S) : List Nat → Prop
  | [] => True
  | i :: is => (∃ (ω : OTy K) (f : S → ω.τ.α), Δ[i]? = some (.ow ω f)) ∧ OwnAll Δ is
theorem OwnAll.all : ∀ {ms : List Nat}, OwnAll Δ ms → ∀ i ∈ ms, ∃ (ω : OTy K) (f : S → ω.τ.α), Δ[i]? = some (.ow ω f)
  | [], _, _, h => nomatch h
  | j :: ms, h, i, m => by
    rcases List.mem_cons.mp m with e | e
    · subst e; exact h.1
    · exact OwnAll.all h.2 i e
theorem get_set {α : Type} {xs : List α} {i j : Nat} {x y : α} (h : (xs.set i x)[j]? = some y) : (i = j ∧ y = x ∧ i < xs.length) ∨ (i ≠ j ∧ xs[j]? = some y) := by
  by_cases e : i = j
  · subst e
    have hl : i < xs.length := by
      have := (List.getElem?_eq_some_iff.mp h).1
      rwa [List.length_set] at this
    rw [List.getElem?_set_self hl] at h
    exact .inl ⟨rfl, (Option.some.inj h).symm, hl⟩
  · rw [List.getElem?_set_ne e] at h
    exact .inr ⟨e, h⟩
theorem get_set1 {α : Type 1} {xs : List α} {i j : Nat} {x y : α} (h : (xs.set i x)[j]? = some y) : (i = j ∧ y = x ∧ i < xs.length) ∨ (i ≠ j ∧ xs[j]? = some y) := by
  by_cases e : i = j
  · subst e
    have hl : i < xs.length := by
      have := (List.getElem?_eq_some_iff.mp h).1
      rwa [List.length_set] at this
    rw [List.getElem?_set_self hl] at h
    exact .inl ⟨rfl, (Option.some.inj h).symm, hl⟩
  · rw [List.getElem?_set_ne e] at h
    exact .inr ⟨e, h⟩
theorem Holds.setF {v : V} {f : S → τ.α} (hh : Holds Δ s F H σ) (r : τ.rep F v (f s)) : Holds (Δ.set i (.fz τ f)) s F H (σ.set i (some v)) where
  len := by rw [List.length_set, List.length_set, hh.len]
  at_ := fun j sl o e1 e2 => by
    rcases get_set1 e1 with ⟨rfl, rfl, _⟩ | ⟨n, e1⟩
    · rcases get_set e2 with ⟨_, rfl, _⟩ | ⟨n, _⟩
      · exact ⟨v, rfl, r⟩
      · exact absurd rfl n
    · rw [List.getElem?_set_ne n] at e2
      exact hh.at_ j sl o e1 e2
  sep := fun j k ω ω' g g' p n e1 e2 e3 => by
    rcases get_set1 e1 with ⟨_, z, _⟩ | ⟨n1, e1⟩
    · cases z
    · rcases get_set1 e2 with ⟨_, z, _⟩ | ⟨n2, e2⟩
      · cases z
      · rw [List.getElem?_set_ne n1] at e3
        rw [List.getElem?_set_ne n2]
        exact hh.sep j k ω ω' g g' p n e1 e2 e3
theorem Holds.setO {p : Addr} {u : HO} {f : S → ω.τ.α} (hh : Holds Δ s F H σ) (n : F p = none) (hp : H p = some u) (o : ω.own F u (f s)) (hno : ¬ Own Δ σ p) : Holds (Δ.set i (.ow ω f)) s F H (σ.set i (some (.ref p))) where
  len := by rw [List.length_set, List.length_set, hh.len]
  at_ := fun j sl o' e1 e2 => by
    rcases get_set1 e1 with ⟨rfl, rfl, _⟩ | ⟨n1, e1⟩
    · rcases get_set e2 with ⟨_, rfl, _⟩ | ⟨n2, _⟩
      · exact ⟨p, u, rfl, n, hp, o⟩
      · exact absurd rfl n2
    · rw [List.getElem?_set_ne n1] at e2
      exact hh.at_ j sl o' e1 e2
  sep := fun j k ω1 ω2 g g' q ne e1 e2 e3 => by
    rcases get_set1 e1 with ⟨rfl, z, hl⟩ | ⟨n1, e1⟩
    · rw [List.getElem?_set_self (by rw [hh.len]; exact hl)] at e3
      cases e3
      rcases get_set1 e2 with ⟨z2, _, _⟩ | ⟨n2, e2⟩
      · exact absurd z2 ne
      · rw [List.getElem?_set_ne n2]
        intro e4
        exact hno ⟨k, ω2, g', e2, e4⟩
    · rw [List.getElem?_set_ne n1] at e3
      rcases get_set1 e2 with ⟨rfl, z, hl⟩ | ⟨n2, e2⟩
      · rw [List.getElem?_set_self (by rw [hh.len]; exact hl)]
        intro e4
        cases e4
        exact hno ⟨j, ω1, g, e1, e3⟩
      · rw [List.getElem?_set_ne n2]
        exact hh.sep j k ω1 ω2 g g' q ne e1 e2 e3
/-- an own object is changed -/
theorem Holds.mut {p : Addr} {u' : HO} {f f' : S → ω.τ.α} (hh : Holds Δ s F H σ) (h : Δ[i]? = some (.ow ω f)) (hσ : σ[i]? = some (some (.ref p))) (o : ω.own F u' (f' s)) : Holds (Δ.set i (.ow ω f')) s F (upd H p u') σ where
  len := by rw [List.length_set, hh.len]
  at_ := fun j sl o' e1 e2 => by
    obtain ⟨q, u, e3, n, hp, _⟩ := hh.at_ i _ _ h hσ
    cases e3
    rcases get_set1 e1 with ⟨rfl, rfl, _⟩ | ⟨n1, e1⟩
    · rw [hσ] at e2; cases e2
      exact ⟨p, u', rfl, n, upd_same, o⟩
    · have r := hh.at_ j sl o' e1 e2
      cases sl with
      | dead => trivial
      | fz τ g => exact r
      | ow ω2 g =>
        obtain ⟨p2, u2, e4, n2, hp2, o2⟩ := r
        subst e4
        refine ⟨p2, u2, rfl, n2, ?_, o2⟩
        rw [upd_ne fun z => hh.sep i j ω ω2 f g p n1 h e1 hσ (by rw [e2, z])]
        exact hp2
  sep := fun j k ω1 ω2 g g' q ne e1 e2 e3 => by
    have ok : ∀ {j : Nat} {ω1 : OTy K} {g : S → ω1.τ.α}, (Δ.set i (.ow ω f'))[j]? = some (.ow ω1 g) → ∃ (ω' : OTy K) (g' : S → ω'.τ.α), Δ[j]? = some (.ow ω' g') := fun {j ω1 g} e => by
      rcases get_set1 e with ⟨rfl, _, _⟩ | ⟨_, e⟩
      · exact ⟨_, _, h⟩
      · exact ⟨_, _, e⟩
    obtain ⟨_, _, k1⟩ := ok e1
    obtain ⟨_, _, k2⟩ := ok e2
    exact hh.sep j k _ _ _ _ q ne k1 k2 e3
theorem diff_mut {f f' : S → ω.τ.α} (h : Δ[i]? = some (.ow ω f)) : Diff [i] Δ (Δ.set i (.ow ω f')) := ⟨List.length_set .., fun k n => List.getElem?_set_ne fun e => n (by rw [e]; exact List.mem_singleton.mpr rfl), fun k ω2 g e => by
  rcases get_set1 e with ⟨rfl, _, _⟩ | ⟨_, e⟩
  · exact ⟨_, _, h⟩
  · exact ⟨_, _, e⟩⟩
theorem gr_mut {p : Addr} {u' : HO} (sm : Same F H) (n : F p = none) (hp : H p ≠ none) (hσ : σ[i]? = some (some (.ref p))) : Gr (MsAt [i] σ) F H F (upd H p u') where
  ff := Same.refl F
  fh := fun a o e => by rw [upd_ne (ne_of_none e n)]; exact sm a o e
  fresh := fun a o e => .inl e
  keep := fun a o e nb => by rw [upd_ne fun z => nb ⟨i, List.mem_singleton.mpr rfl, by rw [z]; exact hσ⟩]; exact e
  dom := fun a e => by
    by_cases z : a = p
    · subst z; rw [upd_same] at e; cases e
    · rw [upd_ne z] at e; exact e
/-- a name is stored -/
theorem GrS.set {sl : Slot K S} {o : Option V} (g : GrS mus Δ σ Δ1 σ F H F1 H1) (hi : i ∉ mus) (hl : Δ1.length = σ.length) (hp : ∀ (ω : OTy K) (f : S → ω.τ.α) p, sl = .ow ω f → o = some (.ref p) → H p = none) : GrS mus Δ σ (Δ1.set i sl) (σ.set i o) F H F1 H1 :=
  { g.toGrR with
    own := fun a ⟨j, ω, f, e1, e2⟩ => by
      rcases get_set1 e1 with ⟨rfl, z, hl2⟩ | ⟨n, e1⟩
      · rw [List.getElem?_set_self (by rw [← hl]; exact hl2)] at e2
        exact .inr (hp ω f a z.symm (Option.some.inj e2))
      · rw [List.getElem?_set_ne n] at e2
        exact g.own a ⟨j, ω, f, e1, e2⟩
    mu := fun k h => by rw [List.getElem?_set_ne (fun (e : i = k) => hi (by rw [e]; exact h))] }
end
section
variable {K : PySem.W.Frag} {X : Cx} {S R : Type} {fm : Fm K R} {Δ Δ1 Δ2 Δ3 Δa Δb Δj : Ctx K S} {st : Stmt} {sts : List Stmt} {e a b c : Expr} {pos p' : Pos} {τ : Ty K} {ts : List (Ty K)} {ω : OTy K} {mus ms m1 m2 : List Nat} {c1 c2 c3 cs : List (S → Prop)} {ta tb : TE} {tx : TT} {tl : TA} {i : Nat} {x : Str}
/-! #### targets -/
/-- the value h s goes to a target -/
def DG (K : PySem.W.Frag) (X : Cx) (Δ : Ctx K S) (tg : Expr) (τ : Ty K) (h : S → τ.α) (is : List Nat) (Δ1 : Ctx K S) (g : TG) : Prop :=
  Δ1.length = Δ.length ∧ PG X tg g ∧ ∀ s F H σ v, Holds Δ s F H σ → Same F H → τ.rep F v (h s) → ∀ Q : L2.St → Hp → Prop, (∀ σ1, Holds Δ1 s F H σ1 → (∀ a, Own Δ1 σ1 a → Own Δ σ a) → (∀ k, k ∉ is → σ1[k]? = σ[k]?) → Q σ1 H) → g v σ H Q
def DGs (K : PySem.W.Frag) (X : Cx) (Δ : Ctx K S) (tgs : List Expr) (ts : List (Ty K)) (h : S → HL ts) (is : List Nat) (Δ1 : Ctx K S) (g : TGs) : Prop :=
  Δ1.length = Δ.length ∧ PGs X tgs g ∧ ∀ s F H σ vs, Holds Δ s F H σ → Same F H → RepAll F ts vs (h s) → ∀ Q : L2.St → Hp → Prop, (∀ σ1, Holds Δ1 s F H σ1 → (∀ a, Own Δ1 σ1 a → Own Δ σ a) → (∀ k, k ∉ is → σ1[k]? = σ[k]?) → Q σ1 H) → g vs σ H Q
theorem DG.name {h : S → τ.α} (hN : X.N.Nodup) (hi : X.N[i]? = some x) (hx : Loc X.env.scope x) (hf : X.fn x = true ∨ X.env.scope.names.lookup x = some .local := by first | exact .inl rfl | exact .inr rfl | assumption) : DG K X Δ (.Name x pos) τ h [i] (Δ.set i (.fz τ h)) (gName i) :=
  ⟨List.length_set .., pg_name hN hi hx hf, fun s F H σ v hh sm r Q q => q _ (hh.setF r) (fun a ⟨j, ω, f, e1, e2⟩ => by
    rcases get_set1 e1 with ⟨_, z, _⟩ | ⟨n, e1⟩
    · cases z
    · rw [List.getElem?_set_ne n] at e2
      exact ⟨j, ω, f, e1, e2⟩) fun k n => List.getElem?_set_ne fun e => n (by rw [e]; exact List.mem_singleton.mpr rfl)⟩
theorem DGs.one {h : S → τ.α} {g : TG} {is : List Nat} (ha : DG K X Δ e τ h is Δ1 g) (hs : (assignEach [e] X.env).map (·.2) = assign e X.env :: (assignEach [] X.env).map (·.2) := by rfl) : DGs K X Δ [e] [τ] h is Δ1 (gCons g gNil) :=
  ⟨ha.1, pgs_cons ha.2.1 pgs_nil hs, fun s F H σ vs hh sm ⟨v, ev, r⟩ Q q => ⟨v, [], ev, ha.2.2 s F H σ v hh sm r _ fun σ1 k1 k2 k3 => ⟨rfl, q σ1 k1 k2 k3⟩⟩⟩
theorem DGs.cons {σt : Ty K} {es : List Expr} {h : S → HL (τ :: σt :: ts)} {g : TG} {gs : TGs} {is js : List Nat} (ha : DG K X Δ e τ (fun s => (h s).1) is Δ1 g) (hb : DGs K X Δ1 es (σt :: ts) (fun s => (h s).2) js Δ2 gs) (hs : (assignEach (e :: es) X.env).map (·.2) = assign e X.env :: (assignEach es X.env).map (·.2) := by rfl) :
    DGs K X Δ (e :: es) (τ :: σt :: ts) h (is ++ js) Δ2 (gCons g gs) :=
  ⟨hb.1.trans ha.1, pgs_cons ha.2.1 hb.2.1 hs, fun s F H σ vs hh sm ⟨v, r, ev, r1, r2⟩ Q q => ⟨v, r, ev, ha.2.2 s F H σ v hh sm r1 _ fun σ1 k1 k2 k3 => hb.2.2 s F H σ1 r k1 sm r2 _ fun σ2 l1 l2 l3 =>
    q σ2 l1 (fun a z => k2 a (l2 a z)) fun k n => (l3 k fun z => n (List.mem_append_right _ z)).trans (k3 k fun z => n (List.mem_append_left _ z))⟩⟩
theorem DG.tup {es : List Expr} {k : Nat} {h : S → HL ts} {gs : TGs} {is : List Nat} (hb : DGs K X Δ es ts h is Δ1 gs) (hc : X.calm = true := by rfl) (hn : (assignEach es X.env).length = ts.length := by rfl) (hst : (assignEach es X.env).findIdx? (·.1) = none := by rfl) (hK : X.K = K := by rfl) : DG K X Δ (.Tuple es k pos) (tTp ts) h is Δ1 (gTup K ts.length gs) := by
  subst hK
  exact ⟨hb.1, pg_tup hc hb.2.1 hn hst, fun s F H σ v hh sm ⟨a, vs, ev, q1, r⟩ Q q => ⟨a, vs, ev, .inl (.inl (sm _ _ q1)), r.length, hb.2.2 s F H σ vs hh sm r Q q⟩⟩
/-- tg = e -/
theorem DS.asg {h : S → τ.α} {tg : Expr} {g : TG} {is : List Nat} (he : DX K X Δ e τ ms c1 Δ1 h ta) (hg : DG K X Δ1 tg τ h is Δ2 g) (hm : OwnAll Δ ms) (hi : ∀ j ∈ is, j ∉ mus) (hs : swapsWithSole [tg] e pos.line X.env = pure false := by rfl) (hw : swappedStores [tg] e X.env = pure none := by rfl)
    (h1 : (assignEach [tg] X.env).map (·.2) = [assign tg X.env] := by rfl) : DS K X mus Δ (.Assign [tg] e pos) c1 Δ2 := by
  obtain ⟨d1, p, r⟩ := he
  refine ⟨_, ps_asg p hg.2.1 hs hw h1, fun s F H σ hh sm hc D q => r s F H σ hh sm hc _ fun v F1 H1 g1 hh1 r1 => hg.2.2 s F1 H1 σ v hh1 g1.fh r1 _ fun σ1 k1 k2 k3 => q σ1 F1 H1 ?_ k1⟩
  have gs : GrS mus Δ σ Δ1 σ F H F1 H1 := GrS.ofGr d1 hh hm.all g1
  exact { gs.toGrR with own := fun a z => gs.own a (k2 a z), mu := fun k m => k3 k fun z => hi k z m }
/-- x = e, a new object of one's own -/
theorem DS.setO {h : S → ω.τ.α} {px : Pos} (he : DO K X Δ e ω ms c1 Δ1 h ta) (hm : OwnAll Δ ms) (hN : X.N.Nodup) (hi : X.N[i]? = some x) (hx : Loc X.env.scope x) (hu : i ∉ mus) (hf : X.fn x = true ∨ X.env.scope.names.lookup x = some .local := by first | exact .inl rfl | exact .inr rfl | assumption) (hs : swapsWithSole [.Name x px] e pos.line X.env = pure false := by rfl) (hw : swappedStores [.Name x px] e X.env = pure none := by rfl)
    (h1 : (assignEach [.Name x px] X.env).map (·.2) = [assign (.Name x px) X.env] := by rfl) : DS K X mus Δ (.Assign [.Name x px] e pos) c1 (Δ1.set i (.ow ω h)) := by
  obtain ⟨d1, p, r⟩ := he
  refine ⟨_, ps_asg p (pg_name hN hi hx hf) hs hw h1, fun s F H σ hh sm hc D q => r s F H σ hh sm hc _ fun a u F1 H1 g1 hh1 n1 n2 e1 o1 => ?_⟩
  have gs : GrS mus Δ σ Δ1 σ F H F1 H1 := GrS.ofGr d1 hh hm.all g1
  refine q _ F1 H1 (gs.set hu hh1.len.symm fun ω f p _ e => by cases e; exact n1) (hh1.setO n2 e1 o1 fun z => ?_)
  obtain ⟨j, ω', f', e2, e3⟩ := z
  exact (d1.was hh e2 e3).2 n1
/-- an own object from here on stays as it is -/
theorem Holds.freeze {s : S} {F H : Hp} {σ : L2.St} {p : Addr} {u : HO} {f : S → ω.τ.α} (hh : Holds Δ s F H σ) (h : Δ[i]? = some (.ow ω f)) (hσ : σ[i]? = some (some (.ref p))) (hp : H p = some u) (n : F p = none) : Holds (Δ.set i (.fz ω.τ f)) s (upd F p u) H σ where
  len := by rw [List.length_set, hh.len]
  at_ := fun j sl o e1 e2 => by
    have sf : Same F (upd F p u) := same_new n
    rcases get_set1 e1 with ⟨rfl, rfl, _⟩ | ⟨n1, e1⟩
    · obtain ⟨q, u2, e3, _, hp2, w⟩ := hh.at_ i _ _ h hσ
      cases e3
      rw [hp] at hp2; cases hp2
      rw [hσ] at e2; cases e2
      exact ⟨.ref p, rfl, ω.frz (ω.mono sf w) upd_same⟩
    · have r := hh.at_ j sl o e1 e2
      cases sl with
      | dead => trivial
      | fz τ g => obtain ⟨v, ev, rv⟩ := r; exact ⟨v, ev, τ.mono sf rv⟩
      | ow ω2 g =>
        obtain ⟨p2, u2, e4, n2, hp2, o2⟩ := r
        subst e4
        refine ⟨p2, u2, rfl, ?_, hp2, ω2.mono sf o2⟩
        rw [upd_ne fun z => hh.sep i j ω ω2 f g p n1 h e1 hσ (by rw [e2, z])]
        exact n2
  sep := fun j k ω1 ω2 g g' q ne e1 e2 e3 => by
    rcases get_set1 e1 with ⟨_, z, _⟩ | ⟨_, e1⟩
    · cases z
    · rcases get_set1 e2 with ⟨_, z, _⟩ | ⟨_, e2⟩
      · cases z
      · exact hh.sep j k ω1 ω2 g g' q ne e1 e2 e3
theorem grs_freeze {s : S} {F H : Hp} {σ : L2.St} {p : Addr} {u : HO} {f : S → ω.τ.α} (hh : Holds Δ s F H σ) (sm : Same F H) (h : Δ[i]? = some (.ow ω f)) (hσ : σ[i]? = some (some (.ref p))) (hp : H p = some u) (n : F p = none) : GrS mus Δ σ (Δ.set i (.fz ω.τ f)) σ F H (upd F p u) H where
  ff := same_new n
  fh := fun a o e => by
    by_cases z : a = p
    · subst z; rw [upd_same] at e; rw [hp]; exact e
    · rw [upd_ne z] at e; exact sm a o e
  fresh := fun a o e => by
    by_cases z : a = p
    · subst z; exact .inr (.inr ⟨i, ω, f, h, hσ⟩)
    · rw [upd_ne z] at e; exact .inl e
  keep := fun a o e _ => e
  dom := fun a e => e
  own := fun a ⟨j, ω2, g, e1, e2⟩ => by
    rcases get_set1 e1 with ⟨_, z, _⟩ | ⟨_, e1⟩
    · cases z
    · exact .inl ⟨j, ω2, g, e1, e2⟩
  mu := fun _ _ => rfl
theorem own_at {s : S} {F H : Hp} {σ : L2.St} {f : S → ω.τ.α} (hh : Holds Δ s F H σ) (h : Δ[i]? = some (.ow ω f)) : ∃ p u, σ[i]? = some (some (.ref p)) ∧ F p = none ∧ H p = some u ∧ ω.own F u (f s) := by
  have hl : i < σ.length := by rw [hh.len]; exact (List.getElem?_eq_some_iff.mp h).1
  obtain ⟨o, ho⟩ : ∃ o, σ[i]? = some o := ⟨_, List.getElem?_eq_getElem hl⟩
  obtain ⟨p, u, e, r⟩ := hh.at_ i _ o h ho
  exact ⟨p, u, by rw [ho, e], r⟩
theorem DN.freeze (i : Nat) {f : S → ω.τ.α} (h : Δ[i]? = some (.ow ω f)) (hb : DN K X mus (Δ.set i (.fz ω.τ f)) sts cs Δ1) : DN K X mus Δ sts cs Δ1 := by
  obtain ⟨t, p, r⟩ := hb
  refine ⟨t, p, fun s F H σ hh sm hc D q => ?_⟩
  obtain ⟨a, u, e1, e2, e3, _⟩ := own_at hh h
  have g := grs_freeze (mus := mus) hh sm h e1 e3 e2
  exact r s _ H σ (hh.freeze h e1 e3 e2) g.fh hc D fun σ1 F1 H1 g1 hh1 => q σ1 F1 H1 (g.trans g1) hh1
theorem DR.freeze (i : Nat) {f : S → ω.τ.α} {g : S → R} (h : Δ[i]? = some (.ow ω f)) (hb : DR K X fm (Δ.set i (.fz ω.τ f)) sts cs g) : DR K X fm Δ sts cs g := by
  obtain ⟨t, p, r⟩ := hb
  refine ⟨t, p, fun s F H σ hh sm hc D q => ?_⟩
  obtain ⟨a, u, e1, e2, e3, _⟩ := own_at hh h
  have g := grs_freeze (mus := musOf 0 fm.ps) hh sm h e1 e3 e2
  exact r s _ H σ (hh.freeze h e1 e3 e2) g.fh hc D (q.back g)
theorem DM.freeze (i : Nat) {f : S → ω.τ.α} {g : S → Option R} (h : Δ[i]? = some (.ow ω f)) (hb : DM K X fm (Δ.set i (.fz ω.τ f)) sts cs g Δ1) : DM K X fm Δ sts cs g Δ1 := by
  obtain ⟨t, p, r⟩ := hb
  refine ⟨t, p, fun s F H σ hh sm hc D q1 q2 => ?_⟩
  obtain ⟨a, u, e1, e2, e3, _⟩ := own_at hh h
  have g := grs_freeze (mus := musOf 0 fm.ps) hh sm h e1 e3 e2
  exact r s _ H σ (hh.freeze h e1 e3 e2) g.fh hc D (fun x e => (q1 x e).back g) fun e σ1 F1 H1 g1 hh1 => q2 e σ1 F1 H1 (g.trans g1) hh1

/-! #### if -/
/-- two contexts behind the branches -/
inductive Join (h : S → Bool) : Ctx K S → Ctx K S → Ctx K S → Prop
  | nil : Join h [] [] []
  | same {sl : Slot K S} {Δa Δb Δj : Ctx K S} : Join h Δa Δb Δj → Join h (sl :: Δa) (sl :: Δb) (sl :: Δj)
  | fz {τ : Ty K} {f g : S → τ.α} {Δa Δb Δj : Ctx K S} : Join h Δa Δb Δj → Join h (.fz τ f :: Δa) (.fz τ g :: Δb) (.fz τ (fun s => if h s = true then f s else g s) :: Δj)
  | ow {ω : OTy K} {f g : S → ω.τ.α} {Δa Δb Δj : Ctx K S} : Join h Δa Δb Δj → Join h (.ow ω f :: Δa) (.ow ω g :: Δb) (.ow ω (fun s => if h s = true then f s else g s) :: Δj)
  | dead {sa sb : Slot K S} {Δa Δb Δj : Ctx K S} : Join h Δa Δb Δj → Join h (sa :: Δa) (sb :: Δb) (.dead :: Δj)
/-- told as another context tells it, at s -/
structure AsC {T : Type} (Δ : Ctx K S) (s : S) (Δ' : Ctx K T) (s' : T) : Prop where
  len : Δ'.length = Δ.length
  sl : ∀ (i : Nat) (sl' : Slot K T), Δ'[i]? = some sl' → sl' = .dead ∨ (∃ (τ : Ty K) (f : S → τ.α) (f' : T → τ.α), Δ[i]? = some (.fz τ f) ∧ sl' = .fz τ f' ∧ f s = f' s') ∨ ∃ (ω : OTy K) (f : S → ω.τ.α) (f' : T → ω.τ.α), Δ[i]? = some (.ow ω f) ∧ sl' = .ow ω f' ∧ f s = f' s'
theorem AsC.holds {T : Type} {Δ' : Ctx K T} {s : S} {s' : T} {F H : Hp} {σ : L2.St} (h : AsC Δ s Δ' s') (hh : Holds Δ s F H σ) : Holds Δ' s' F H σ where
  len := hh.len.trans h.len.symm
  at_ := fun i sl o e1 e2 => by
    rcases h.sl i sl e1 with z | ⟨τ, f, f', k1, z, k2⟩ | ⟨ω, f, f', k1, z, k2⟩
    · subst z; trivial
    · subst z
      obtain ⟨v, e, r⟩ := hh.at_ i _ o k1 e2
      exact ⟨v, e, by rw [← k2]; exact r⟩
    · subst z
      obtain ⟨p, u, e, n, hp, r⟩ := hh.at_ i _ o k1 e2
      exact ⟨p, u, e, n, hp, by rw [← k2]; exact r⟩
  sep := fun i j ω ω' f f' p n e1 e2 e3 => by
    rcases h.sl i _ e1 with z | ⟨_, _, _, _, z, _⟩ | ⟨_, _, _, k1, z, _⟩
    · cases z
    · cases z
    · rcases h.sl j _ e2 with y | ⟨_, _, _, _, y, _⟩ | ⟨_, _, _, k2, y, _⟩
      · cases y
      · cases y
      · exact hh.sep i j _ _ _ _ p n k1 k2 e3
theorem AsC.own {T : Type} {Δ' : Ctx K T} {s : S} {s' : T} {σ : L2.St} (h : AsC Δ s Δ' s') (a : Addr) : Own Δ' σ a → Own Δ σ a := fun ⟨i, ω, f, e1, e2⟩ => by
  rcases h.sl i _ e1 with z | ⟨_, _, _, _, z, _⟩ | ⟨_, _, _, k1, z, _⟩
  · cases z
  · cases z
  · exact ⟨i, _, _, k1, e2⟩
theorem AsC.nil {T : Type} {s : S} {s' : T} : AsC ([] : Ctx K S) s ([] : Ctx K T) s' := ⟨rfl, fun i sl e => by simp at e⟩
theorem AsC.cons {T : Type} {s : S} {s' : T} {sl : Slot K S} {sl' : Slot K T} {Δ' : Ctx K T} (h : sl' = .dead ∨ (∃ (τ : Ty K) (f : S → τ.α) (f' : T → τ.α), sl = .fz τ f ∧ sl' = .fz τ f' ∧ f s = f' s') ∨ ∃ (ω : OTy K) (f : S → ω.τ.α) (f' : T → ω.τ.α), sl = .ow ω f ∧ sl' = .ow ω f' ∧ f s = f' s') (t : AsC Δ s Δ' s') : AsC (sl :: Δ) s (sl' :: Δ') s' :=
  ⟨by rw [List.length_cons, List.length_cons, t.len], fun i y e => by
    cases i with
    | zero =>
      have e' : sl' = y := by simpa using e
      subst e'
      rcases h with z | ⟨τ, f, f', k1, k2, k3⟩ | ⟨ω, f, f', k1, k2, k3⟩
      · exact .inl z
      · exact .inr (.inl ⟨τ, f, f', by rw [k1]; rfl, k2, k3⟩)
      · exact .inr (.inr ⟨ω, f, f', by rw [k1]; rfl, k2, k3⟩)
    | succ i => exact t.sl i y (by simpa using e)⟩
theorem AsC.refl {s : S} : ∀ {Δ : Ctx K S}, AsC Δ s Δ s
  | [] => .nil
  | .dead :: Δ => .cons (.inl rfl) AsC.refl
  | .fz τ f :: Δ => .cons (.inr (.inl ⟨τ, f, f, rfl, rfl, rfl⟩)) AsC.refl
  | .ow ω f :: Δ => .cons (.inr (.inr ⟨ω, f, f, rfl, rfl, rfl⟩)) AsC.refl
theorem Join.yes {h : S → Bool} {s : S} (e : h s = true) (j : Join h Δa Δb Δj) : AsC Δa s Δj s := by
  induction j with
  | nil => exact .nil
  | @same sl _ _ _ _ ih =>
    cases sl with
    | dead => exact .cons (.inl rfl) ih
    | fz τ f => exact .cons (.inr (.inl ⟨τ, f, f, rfl, rfl, rfl⟩)) ih
    | ow ω f => exact .cons (.inr (.inr ⟨ω, f, f, rfl, rfl, rfl⟩)) ih
  | @fz τ f g _ _ _ _ ih => exact .cons (.inr (.inl ⟨τ, f, _, rfl, rfl, by simp only [e, if_true]⟩)) ih
  | @ow ω f g _ _ _ _ ih => exact .cons (.inr (.inr ⟨ω, f, _, rfl, rfl, by simp only [e, if_true]⟩)) ih
  | dead _ ih => exact .cons (.inl rfl) ih
theorem Join.no {h : S → Bool} {s : S} (e : h s = false) (j : Join h Δa Δb Δj) : AsC Δb s Δj s := by
  induction j with
  | nil => exact .nil
  | @same sl _ _ _ _ ih =>
    cases sl with
    | dead => exact .cons (.inl rfl) ih
    | fz τ f => exact .cons (.inr (.inl ⟨τ, f, f, rfl, rfl, rfl⟩)) ih
    | ow ω f => exact .cons (.inr (.inr ⟨ω, f, f, rfl, rfl, rfl⟩)) ih
  | @fz τ f g _ _ _ _ ih => exact .cons (.inr (.inl ⟨τ, g, _, rfl, rfl, by simp only [e, if_false, Bool.false_eq_true]⟩)) ih
  | @ow ω f g _ _ _ _ ih => exact .cons (.inr (.inr ⟨ω, g, _, rfl, rfl, by simp only [e, if_false, Bool.false_eq_true]⟩)) ih
  | dead _ ih => exact .cons (.inl rfl) ih
theorem GrS.as {T U : Type} {Δ0 : Ctx K U} {Δ' : Ctx K T} {s : S} {s' : T} {F H F1 H1 : Hp} {σ σ1 : L2.St} (g : GrS mus Δ0 σ Δ σ1 F H F1 H1) (h : AsC Δ s Δ' s') : GrS mus Δ0 σ Δ' σ1 F H F1 H1 := { g.toGrR with own := fun a z => g.own a (h.own a z), mu := g.mu }
theorem gs0 {s : S} {F H F1 H1 : Hp} {σ : L2.St} (hm : OwnAll Δ ms) (d : Diff ms Δ Δ1) (hh : Holds Δ s F H σ) (g : Gr (MsAt ms σ) F H F1 H1) : GrS mus Δ σ Δ1 σ F H F1 H1 := GrS.ofGr d hh hm.all g
theorem DS.ite {h : S → Bool} {sa sb : List Stmt} (hc : DT K X Δ c ms c1 Δ1 h tx) (hm : OwnAll Δ ms) (ha : DN K X mus Δ1 sa c2 Δa) (hb : DN K X mus Δ1 sb c3 Δb) (hj : Join h Δa Δb Δj) : DS K X mus Δ (.If c sa sb pos) (c1 ++ (guardT h c2 ++ guardF h c3)) Δj := by
  obtain ⟨d, pc, rc⟩ := hc
  obtain ⟨t1, p1, r1⟩ := ha
  obtain ⟨t2, p2, r2⟩ := hb
  refine ⟨_, ps_if pc p1 p2, fun s F H σ hh sm hc D q => ?_⟩
  obtain ⟨k1, k2⟩ := conj_app hc
  obtain ⟨k2, k3⟩ := conj_app k2
  refine rc s F H σ hh sm k1 _ fun F1 H1 g1 hh1 => ?_
  have gs : GrS mus Δ σ Δ1 σ F H F1 H1 := gs0 hm d hh g1
  cases e : h s with
  | true => exact r1 s F1 H1 σ hh1 g1.fh (guardT_conj e k2) D fun σ2 F2 H2 g2 hh2 => q σ2 F2 H2 ((gs.trans g2).as (hj.yes e)) ((hj.yes e).holds hh2)
  | false => exact r2 s F1 H1 σ hh1 g1.fh (guardF_conj e k3) D fun σ2 F2 H2 g2 hh2 => q σ2 F2 H2 ((gs.trans g2).as (hj.no e)) ((hj.no e).holds hh2)
theorem DSm.ite {h : S → Bool} {sa sb : List Stmt} {ra rb : S → Option R} (hc : DT K X Δ c ms c1 Δ1 h tx) (hm : OwnAll Δ ms) (ha : DM K X fm Δ1 sa c2 ra Δa) (hb : DM K X fm Δ1 sb c3 rb Δb) (hj : Join h Δa Δb Δj) : DSm K X fm Δ (.If c sa sb pos) (c1 ++ (guardT h c2 ++ guardF h c3)) (fun s => if h s = true then ra s else rb s) Δj := by
  obtain ⟨d, pc, rc⟩ := hc
  obtain ⟨t1, p1, r1⟩ := ha
  obtain ⟨t2, p2, r2⟩ := hb
  refine ⟨_, ps_if pc p1 p2, fun s F H σ hh sm hc D q1 q2 => ?_⟩
  obtain ⟨k1, k2⟩ := conj_app hc
  obtain ⟨k2, k3⟩ := conj_app k2
  refine rc s F H σ hh sm k1 _ fun F1 H1 g1 hh1 => ?_
  have gs : GrS (musOf 0 fm.ps) Δ σ Δ1 σ F H F1 H1 := gs0 hm d hh g1
  cases e : h s with
  | true =>
    simp only [e, if_true] at q1 q2
    exact r1 s F1 H1 σ hh1 g1.fh (guardT_conj e k2) D (fun x z => (q1 x z).back gs) fun z σ2 F2 H2 g2 hh2 => q2 z σ2 F2 H2 ((gs.trans g2).as (hj.yes e)) ((hj.yes e).holds hh2)
  | false =>
    simp only [e, if_false, Bool.false_eq_true] at q1 q2
    exact r2 s F1 H1 σ hh1 g1.fh (guardF_conj e k3) D (fun x z => (q1 x z).back gs) fun z σ2 F2 H2 g2 hh2 => q2 z σ2 F2 H2 ((gs.trans g2).as (hj.no e)) ((hj.no e).holds hh2)
/-- if c: .. return; rest -/
theorem DR.if1 {f g : S → R} {h : S → Bool} {sa rest : List Stmt} (hc : DT K X Δ c ms c1 Δ1 h tx) (hm : OwnAll Δ ms) (ha : DR K X fm Δ1 sa c2 f) (hb : DR K X fm Δ1 rest c3 g) : DR K X fm Δ (.If c sa [] pos :: rest) (c1 ++ [fun s => if h s = true then Conj c2 s else Conj c3 s]) (fun s => if h s = true then f s else g s) := by
  obtain ⟨d, pc, rc⟩ := hc
  obtain ⟨t1, p1, r1⟩ := ha
  obtain ⟨t2, p2, r2⟩ := hb
  refine ⟨_, pss_cons (ps_if pc p1 pss_nil) p2, fun s F H σ hh sm hc D q => ?_⟩
  obtain ⟨k1, k2⟩ := conj_app hc
  obtain ⟨k2, _⟩ := k2
  refine rc s F H σ hh sm k1 _ fun F1 H1 g1 hh1 => ?_
  have gs : GrS (musOf 0 fm.ps) Δ σ Δ1 σ F H F1 H1 := gs0 hm d hh g1
  cases e : h s with
  | true =>
    simp only [e, if_true] at q k2
    exact r1 s F1 H1 σ hh1 g1.fh k2 _ (q.back gs)
  | false =>
    simp only [e, if_false, Bool.false_eq_true] at q k2
    exact r2 s F1 H1 σ hh1 g1.fh k2 D (q.back gs)
/-- if c: .. return; else: .. return -/
theorem DR.if2 {f g : S → R} {h : S → Bool} {sa sb : List Stmt} (hc : DT K X Δ c ms c1 Δ1 h tx) (hm : OwnAll Δ ms) (ha : DR K X fm Δ1 sa c2 f) (hb : DR K X fm Δ1 sb c3 g) : DR K X fm Δ [.If c sa sb pos] (c1 ++ [fun s => if h s = true then Conj c2 s else Conj c3 s]) (fun s => if h s = true then f s else g s) := by
  obtain ⟨d, pc, rc⟩ := hc
  obtain ⟨t1, p1, r1⟩ := ha
  obtain ⟨t2, p2, r2⟩ := hb
  refine ⟨_, pss_one (ps_if pc p1 p2), fun s F H σ hh sm hc D q => ?_⟩
  obtain ⟨k1, k2⟩ := conj_app hc
  obtain ⟨k2, _⟩ := k2
  refine rc s F H σ hh sm k1 _ fun F1 H1 g1 hh1 => ?_
  have gs : GrS (musOf 0 fm.ps) Δ σ Δ1 σ F H F1 H1 := gs0 hm d hh g1
  cases e : h s with
  | true =>
    simp only [e, if_true] at q k2
    exact r1 s F1 H1 σ hh1 g1.fh k2 _ (q.back gs)
  | false =>
    simp only [e, if_false, Bool.false_eq_true] at q k2
    exact r2 s F1 H1 σ hh1 g1.fh k2 D (q.back gs)
end
end Dx

/-! Dx, part F: methods that change, calls of defs, loops, comprehensions. -/
namespace Dx
open PySem PySem.Spec PyProof.Rows L2
section
variable {K : PySem.W.Frag} {X : Cx} {S R : Type} {fm : Fm K R} {Δ Δ1 Δ2 Δ3 Δa Δb Δj : Ctx K S} {st : Stmt} {sts : List Stmt} {e a b c : Expr} {es : List Expr} {pos p' apos : Pos} {τ τ1 τ2 : Ty K} {ts : List (Ty K)} {ω : OTy K} {mus ms m1 m2 : List Nat} {c1 c2 c3 cs : List (S → Prop)} {ta tb : TE} {tx : TT} {tl : TA} {i : Nat} {x : Str}
theorem DS.expr {f : S → τ.α} (he : DX K X Δ e τ ms c1 Δ1 f ta) (hm : OwnAll Δ ms) (hs : swapsWith e none pos.line X.env = pure false := by rfl) : DS K X mus Δ (.Expr e pos) c1 Δ1 := by
  obtain ⟨d1, p, r⟩ := he
  exact ⟨_, ps_expr p hs, fun s F H σ hh sm hc D q => r s F H σ hh sm hc _ fun v F1 H1 g1 hh1 _ => q σ F1 H1 (gs0 hm d1 hh g1) hh1⟩

/-! #### an own list is changed -/
theorem own_list {s : S} {F H : Hp} {σ : L2.St} {f : S → List τ.α} (hh : Holds Δ s F H σ) (h : Δ[i]? = some (.ow (oList τ) f)) : ∃ p vs, σ[i]? = some (some (.ref p)) ∧ F p = none ∧ H p = some (.lst vs) ∧ Paired (τ.rep F) vs (f s) ∧ (f s).length ≤ sizeLine := by
  obtain ⟨p, u, e1, e2, e3, vs, e4, r, z⟩ := own_at hh h
  subst e4
  exact ⟨p, vs, e1, e2, e3, r, z⟩
theorem paired_app {α β : Type} {R : α → β → Prop} : ∀ {xs xs' : List α} {ys ys' : List β}, Paired R xs ys → Paired R xs' ys' → Paired R (xs ++ xs') (ys ++ ys')
  | _, _, _, _, .nil, s => s
  | _, _, _, _, .cons r t, s => .cons r (paired_app t s)
theorem paired_set {α β : Type} {R : α → β → Prop} {x : α} {y : β} (r : R x y) : ∀ {xs : List α} {ys : List β} (i : Nat), Paired R xs ys → Paired R (xs.set i x) (ys.set i y)
  | _, _, _, .nil => .nil
  | _, _, 0, .cons _ t => .cons r t
  | _, _, i + 1, .cons q t => .cons q (paired_set r i t)
/-- x.append(e) -/
theorem DX.append {f : S → List τ.α} {fe : S → τ.α} {px : Pos} (he : DX K X Δ e τ ms c1 Δ1 fe ta) {f0 : S → List τ.α} (h0 : Δ[i]? = some (.ow (oList τ) f0)) (h : Δ1[i]? = some (.ow (oList τ) f)) (hN : X.N[i]? = some x := by rfl) (hv : Vis X.env.scope x := by first | exact Or.inl rfl | exact Or.inr (Or.inl rfl) | exact Or.inr (Or.inr rfl)) (hd : (x == ("__debug__" : Str)) = false := by decide)
    (hcd : (x == ("__classdict__" : Str)) = false := by decide) (hbase : attributeBase (.Name x px) "append" X.env (eval (.Name x px) X.env) = eval (.Name x px) X.env := by rfl)
    (hfew : ((backTo pos (starEach [e] X.env)).all (fun x => !x.1) && (backToKw pos (keywordEach [] X.env)).all (fun x => x.1.isSome)
      && decide ([e].length + ([] : List Keyword).length + (if ([] : List Keyword).isEmpty then 0 else 1) < 30)) = true := by rfl)
    (hline : (apos.endLine == pos.line) = true := by rfl) (hs : starEach [e] X.env = (false, eval e X.env) :: starEach [] X.env := by rfl) (hplain : (backTo pos (starEach [] X.env)).any (·.1) = false := by rfl) (hK : X.K = K := by rfl) :
    DX K X Δ (.Call (.Attribute (.Name x px) "append" apos) [e] [] pos) (tNone K) (ms ++ [i]) (c1 ++ [fun s => (f s).length < sizeLine]) (Δ1.set i (.ow (oList τ) fun s => f s ++ [fe s])) (fun _ => ()) (tBM K "list" rAppend (tVar i) (tCons ta tNil)) := by
  subst hK
  obtain ⟨d1, p, r⟩ := he
  refine ⟨d1.trans (diff_mut h), pe_bm PySem.F.plainAttrs_list PySem.F.slot_list_append PySem.F.type_list_append mt_append (pe_var hN hv hd hcd) (pa_cons p pa_nil hs) hbase hfew hline hs hplain, fun s F H σ hh sm hc Q q => ?_⟩
  obtain ⟨k1, k2, _⟩ := conj_app hc
  obtain ⟨p0, vs0, e1, _, e3, _⟩ := own_list hh h0
  have hl : tyV X.K "list" (.ref p0) H := .inl ⟨rfl, _, .inl (.inl e3)⟩
  refine ⟨.ref p0, e1, hl, r s F H σ hh sm k1 _ fun v F1 H1 g1 hh1 r1 => ?_⟩
  obtain ⟨p1, vs, f1, f2, f3, f4, f5⟩ := own_list hh1 h
  rw [e1] at f1; cases f1
  refine ⟨p0, vs, v, rfl, rfl, f3, by rw [f4.length]; exact k2, ?_⟩
  have g2 := gr_mut (i := i) (u' := .lst (vs ++ [v])) g1.fh f2 (by rw [f3]; exact fun z => nomatch z) e1
  refine q _ F1 _ ((g1.mono (msAt_l (m2 := [i]))).trans (g2.mono (msAt_r (m1 := ms)))) (hh1.mut h e1 ⟨_, rfl, paired_app f4 (.cons r1 .nil), ?_⟩) rfl
  rw [List.length_append]
  exact k2

def setI {α : Type} (xs : List α) (i : Int) (v : α) : List α := xs.set (if 0 ≤ i then i.toNat else (i + xs.length).toNat) v
/-- x[b] = e -/
theorem DS.store {f : S → List τ.α} {fe : S → τ.α} {fi : S → Int} {px p2 : Pos} (he : DX K X Δ e τ ms c1 Δ1 fe ta) (hb : DX K X Δ1 b (tInt K) [] c2 Δ1 fi tb) (hm : OwnAll Δ ms) (h : Δ1[i]? = some (.ow (oList τ) f)) (hN : X.N[i]? = some x := by rfl) (hv : Vis X.env.scope x := by first | exact Or.inl rfl | exact Or.inr (Or.inl rfl) | exact Or.inr (Or.inr rfl)) (hd : (x == ("__debug__" : Str)) = false := by decide)
    (hcd : (x == ("__classdict__" : Str)) = false := by decide) (ha : ∀ v, assign (.Subscript (.Name x px) b p2) X.env v = (do
      let ov ← holding [v] (eval (.Name x px) X.env)
      let iv ← holding [v, ov] (eval b X.env)
      standAt p2
      holding [v, ov, iv] (setItem ov iv v)
      release [v, ov, iv] []) := by intro _; rfl) (hs : swapsWithSole [.Subscript (.Name x px) b p2] e pos.line X.env = pure false := by rfl) (hw : swappedStores [.Subscript (.Name x px) b p2] e X.env = pure none := by rfl)
    (h1 : (assignEach [.Subscript (.Name x px) b p2] X.env).map (·.2) = [assign (.Subscript (.Name x px) b p2) X.env] := by rfl) :
    DS K X mus Δ (.Assign [.Subscript (.Name x px) b p2] e pos) (c1 ++ (c2 ++ [fun s => IxOk (f s) (fi s)])) (Δ1.set i (.ow (oList τ) fun s => setI (f s) (fi s) (fe s))) := by
  obtain ⟨d1, p, r⟩ := he
  obtain ⟨_, pb, rb⟩ := hb
  refine ⟨_, ps_asg p (pg_sub (pe_var hN hv hd hcd) pb set_list ha) hs hw h1, fun s F H σ hh sm hc D q => ?_⟩
  obtain ⟨k1, k2⟩ := conj_app hc
  obtain ⟨k2, k3, _⟩ := conj_app k2
  refine r s F H σ hh sm k1 _ fun v F1 H1 g1 hh1 r1 => ?_
  obtain ⟨pp, vs, f1, f2, f3, f4, f5⟩ := own_list hh1 h
  refine ⟨.ref pp, f1, rb s F1 H1 σ hh1 g1.fh k2 _ fun iv F2 H2 g2 hh2 r2 => ?_⟩
  rw [msAt_nil] at g2
  obtain ⟨pp', vs', f1', f2', f3', f4', f5'⟩ := own_list hh2 h
  rw [f1] at f1'; cases f1'
  obtain ⟨j, hj, _⟩ := ix_at (d := fe s) k3
  have hj' : j = (if 0 ≤ fi s then (fi s).toNat else (fi s + (f s).length).toNat) := by
    unfold ixN at hj
    split
    · rename_i h0
      rw [if_pos h0] at hj
      split at hj
      · exact (Option.some.inj hj).symm
      · cases hj
    · rename_i h0
      rw [if_neg h0] at hj
      split at hj
      · exact (Option.some.inj hj).symm
      · cases hj
  refine ⟨pp, vs', fi s, j, rfl, r2, f3', by rw [f4'.length]; exact hj, ?_⟩
  have gs : GrS mus Δ σ Δ1 σ F H F1 H1 := gs0 hm d1 hh g1
  have gs2 : GrS mus Δ1 σ Δ1 σ F1 H1 F2 H2 := gs0 (ms := []) trivial Diff.refl hh1 (by rw [msAt_nil]; exact g2)
  have gs3 : GrS mus Δ1 σ (Δ1.set i (.ow (oList τ) fun s => setI (f s) (fi s) (fe s))) σ F2 H2 F2 (upd H2 pp (.lst (vs'.set j v))) := gs0 (ms := [i]) ⟨⟨_, _, h⟩, trivial⟩ (diff_mut h) hh2 (gr_mut g2.fh f2' (by rw [f3']; exact fun z => nomatch z) f1)
  refine q σ F2 _ ((gs.trans gs2).trans gs3) (hh2.mut h f1 ⟨_, rfl, ?_, ?_⟩)
  · unfold setI
    rw [hj']
    exact paired_set (τ.mono g2.ff r1) _ f4'
  · unfold setI
    rw [List.length_set]
    exact f5'
/-- x += e, x -= e of ints -/
theorem DS.augA {f fe : S → Int} {px : Pos} (he : DX K X Δ e (tInt K) [] c1 Δ fe ta) (h : Δ[i]? = some (.fz (tInt K) f)) (hN : X.N.Nodup) (hi : X.N[i]? = some x) (hx : Loc X.env.scope x) (hu : i ∉ mus) (hf : X.fn x = true ∨ X.env.scope.names.lookup x = some .local := by first | exact .inl rfl | exact .inr rfl | assumption) : DS K X mus Δ (.AugAssign (.Name x px) .Add e pos) c1 (Δ.set i (.fz (tInt K) fun s => f s + fe s)) := by
  obtain ⟨d1, p, r⟩ := he
  refine ⟨_, ps_aug hN hi hx p ip_add hf, fun s F H σ hh sm hc D q => ?_⟩
  have hl : i < σ.length := by rw [hh.len]; exact (List.getElem?_eq_some_iff.mp h).1
  obtain ⟨o, ho⟩ : ∃ o, σ[i]? = some o := ⟨_, List.getElem?_eq_getElem hl⟩
  obtain ⟨v, ev, rv⟩ := hh.at_ i _ o h ho
  refine ⟨v, by rw [ho, ev], r s F H σ hh sm hc _ fun w F1 H1 g1 hh1 r1 => ⟨f s, fe s, rv, r1, ?_⟩⟩
  rw [msAt_nil] at g1
  have gs : GrS mus Δ σ Δ σ F H F1 H1 := gs0 (ms := []) trivial Diff.refl hh (by rw [msAt_nil]; exact g1)
  exact q _ F1 H1 (gs.set hu hh1.len.symm fun _ _ _ z _ => nomatch z) (hh1.setF (show (tInt K).rep F1 (.int (f s + fe s)) (f s + fe s) from rfl))
theorem DS.augS {f fe : S → Int} {px : Pos} (he : DX K X Δ e (tInt K) [] c1 Δ fe ta) (h : Δ[i]? = some (.fz (tInt K) f)) (hN : X.N.Nodup) (hi : X.N[i]? = some x) (hx : Loc X.env.scope x) (hu : i ∉ mus) (hf : X.fn x = true ∨ X.env.scope.names.lookup x = some .local := by first | exact .inl rfl | exact .inr rfl | assumption) : DS K X mus Δ (.AugAssign (.Name x px) .Sub e pos) c1 (Δ.set i (.fz (tInt K) fun s => f s - fe s)) := by
  obtain ⟨d1, p, r⟩ := he
  refine ⟨_, ps_aug hN hi hx p ip_sub hf, fun s F H σ hh sm hc D q => ?_⟩
  have hl : i < σ.length := by rw [hh.len]; exact (List.getElem?_eq_some_iff.mp h).1
  obtain ⟨o, ho⟩ : ∃ o, σ[i]? = some o := ⟨_, List.getElem?_eq_getElem hl⟩
  obtain ⟨v, ev, rv⟩ := hh.at_ i _ o h ho
  refine ⟨v, by rw [ho, ev], r s F H σ hh sm hc _ fun w F1 H1 g1 hh1 r1 => ⟨f s, fe s, rv, r1, ?_⟩⟩
  rw [msAt_nil] at g1
  have gs : GrS mus Δ σ Δ σ F H F1 H1 := gs0 (ms := []) trivial Diff.refl hh (by rw [msAt_nil]; exact g1)
  exact q _ F1 H1 (gs.set hu hh1.len.symm fun _ _ _ z _ => nomatch z) (hh1.setF (show (tInt K).rep F1 (.int (f s - fe s)) (f s - fe s) from rfl))
/-- x += e, x an own list, e a new one -/
theorem DS.augL {f fe : S → List τ.α} {px : Pos} (he : DO K X Δ e (oList τ) [] c1 Δ fe ta) (h : Δ[i]? = some (.ow (oList τ) f)) (hN : X.N.Nodup) (hi : X.N[i]? = some x) (hx : Loc X.env.scope x) (hf : X.fn x = true ∨ X.env.scope.names.lookup x = some .local := by first | exact .inl rfl | exact .inr rfl | assumption) : DS K X mus Δ (.AugAssign (.Name x px) .Add e pos) (c1 ++ [fun s => (f s).length + (fe s).length ≤ sizeLine]) (Δ.set i (.ow (oList τ) fun s => f s ++ fe s)) := by
  obtain ⟨d1, p, r⟩ := he
  refine ⟨_, ps_aug hN hi hx p (ti := rExt2) (fun pins s σ H x y v u Q I rx ry h => iop_ext pins s σ H x y v u Q I rx ry h) hf, fun s F H σ hh sm hc D q => ?_⟩
  obtain ⟨k1, k2, _⟩ := conj_app hc
  obtain ⟨p0, vs, e1, e2, e3, e4, e5⟩ := own_list hh h
  refine ⟨.ref p0, e1, r s F H σ hh sm k1 _ fun p1 u F1 H1 g1 hh1 n1 n2 n3 ⟨vs1, w1, w2, w3⟩ => ?_⟩
  subst w1
  rw [msAt_nil] at g1
  have e3' : H1 p0 = some (.lst vs) := g1.same _ _ e3
  refine ⟨p0, p1, vs, vs1, rfl, rfl, e3', n3, by rw [e4.length, w2.length]; exact k2, ?_⟩
  have eσ : σ.set i (some (.ref p0)) = σ := by
    apply List.ext_getElem?
    intro j
    by_cases hj : i = j
    · subst hj
      rw [List.getElem?_set_self (by rw [hh.len]; exact (List.getElem?_eq_some_iff.mp h).1), e1]
    · rw [List.getElem?_set_ne hj]
  show D.nx (σ.set i (some (.ref p0))) _
  rw [eσ]
  have f2 : F1 p0 = none := by
    obtain ⟨_, _, z1, z2, _⟩ := own_list hh1 h
    rw [e1] at z1; cases z1
    exact z2
  have gs : GrS mus Δ σ Δ σ F H F1 H1 := gs0 (ms := []) trivial Diff.refl hh (by rw [msAt_nil]; exact g1)
  have gs3 : GrS mus Δ σ (Δ.set i (.ow (oList τ) fun s => f s ++ fe s)) σ F1 H1 F1 (upd H1 p0 (.lst (vs ++ vs1))) := gs0 (ms := [i]) ⟨⟨_, _, h⟩, trivial⟩ (diff_mut h) hh1 (gr_mut g1.fh f2 (by rw [e3']; exact fun z => nomatch z) e1)
  refine q σ F1 _ (gs.trans gs3) (hh1.mut h e1 ⟨_, rfl, paired_app (paired_mono (fun a b r => τ.mono g1.ff r) e4) w2, ?_⟩)
  rw [List.length_append]
  exact k2

/-! #### calls of defs -/
/-- the arguments are the parameters' -/
inductive Ar {K : PySem.W.Frag} {S : Type} (Δ : Ctx K S) : List (AK K S) → (ps : List (PK K)) → (S → HP ps) → Prop
  | nil : Ar Δ [] [] (fun _ => ())
  | fz {τ : Ty K} {h : S → τ.α} {as : List (AK K S)} {ps : List (PK K)} {g : S → HP ps} : Ar Δ as ps g → Ar Δ (.fz τ h :: as) (.fz τ :: ps) (fun s => (h s, g s))
  | mu {j : Nat} {ω : OTy K} {f : S → ω.τ.α} {as : List (AK K S)} {ps : List (PK K)} {g : S → HP ps} : Δ[j]? = some (.ow ω f) → Ar Δ as ps g → Ar Δ (.mu j :: as) (.mu ω :: ps) (fun s => (f s, g s))
/-- the slots lent -/
def lent {K : PySem.W.Frag} {S : Type} : List (AK K S) → List Nat
  | [] => []
  | .fz _ _ :: as => lent as
  | .mu j :: as => j :: lent as
/-- behind the call: the lent slots hold what the callee says -/
inductive Up {K : PySem.W.Frag} {S : Type} : (Δ : Ctx K S) → List (AK K S) → (ps : List (PK K)) → (S → HM ps) → Ctx K S → Prop
  | nil {Δ : Ctx K S} {r : S → HM []} : Up Δ [] [] r Δ
  | fz {Δ Δ1 : Ctx K S} {τ σ : Ty K} {h : S → τ.α} {as : List (AK K S)} {ps : List (PK K)} {r : S → HM ps} : Up Δ as ps r Δ1 → Up Δ (.fz τ h :: as) (.fz σ :: ps) r Δ1
  | mu {Δ Δ1 : Ctx K S} {j : Nat} {ω : OTy K} {as : List (AK K S)} {ps : List (PK K)} {r : S → HM (.mu ω :: ps)} : Up (Δ.set j (.ow ω fun s => (r s).1)) as ps (fun s => (r s).2) Δ1 → Up Δ (.mu j :: as) (.mu ω :: ps) r Δ1
/-- a def's promise over data -/
def SpOf {R : Type} (fm : Fm K R) (p : HP fm.ps → Prop) (f : HP fm.ps → R) : Sp := fun vs H Q _ => ∃ (F : Hp) (s : HP fm.ps), Holds (ctx0 fm.ps) s F H (vs.map some) ∧ Same F H ∧ p s ∧
  ∀ v F1 H1, Gr (MsAt (musOf 0 fm.ps) (vs.map some)) F H F1 H1 → RetOk (fun q => H q = none) F1 H1 fm.ret v (fm.res (f s)) → MuOk F1 H1 (vs.map some) 0 fm.ps (fm.mv (f s)) → Q v H1
theorem ctx0_length : ∀ ps : List (PK K), (ctx0 ps).length = ps.length
  | [] => rfl
  | .fz τ :: ps => by show (List.map _ (ctx0 ps)).length + 1 = _; rw [List.length_map, ctx0_length ps]; rfl
  | .mu τ :: ps => by show (List.map _ (ctx0 ps)).length + 1 = _; rw [List.length_map, ctx0_length ps]; rfl
theorem SpOf.len {R : Type} {fm : Fm K R} {p : HP fm.ps → Prop} {f : HP fm.ps → R} (vs : List V) (H : Hp) (Q : VK) (E : XK) (h : SpOf fm p f vs H Q E) : vs.length = fm.ps.length := by
  obtain ⟨F, s, h, _⟩ := h
  have := h.len
  rw [List.length_map, ctx0_length] at this
  exact this

theorem ctx0_own : ∀ {ps : List (PK K)} {k : Nat} (i : Nat) (ω : OTy K) (f : HP ps → ω.τ.α), (ctx0 ps)[i]? = some (.ow ω f) → k + i ∈ musOf k ps
  | [], _, _, _, _, h => by simp [ctx0] at h
  | .fz τ :: ps, k, 0, _, _, h => by simp [ctx0] at h
  | .fz τ :: ps, k, i + 1, ω, f, h => by
    have h' : ((ctx0 ps).map (Slot.comap fun s : HP (.fz τ :: ps) => s.2))[i]? = some (.ow ω f) := by simpa [ctx0] using h
    rw [List.getElem?_map] at h'
    obtain ⟨sl, e, c⟩ := Option.map_eq_some_iff.mp h'
    cases sl with
    | dead => cases c
    | fz _ _ => cases c
    | ow ω' f' =>
      have := ctx0_own (k := k + 1) i ω' f' e
      show k + (i + 1) ∈ musOf (k + 1) ps
      rw [show k + (i + 1) = k + 1 + i by omega]
      exact this
  | .mu τ :: ps, k, 0, _, _, h => List.mem_cons_self ..
  | .mu τ :: ps, k, i + 1, ω, f, h => by
    have h' : ((ctx0 ps).map (Slot.comap fun s : HP (.mu τ :: ps) => s.2))[i]? = some (.ow ω f) := by simpa [ctx0] using h
    rw [List.getElem?_map] at h'
    obtain ⟨sl, e, c⟩ := Option.map_eq_some_iff.mp h'
    cases sl with
    | dead => cases c
    | fz _ _ => cases c
    | ow ω' f' =>
      have := ctx0_own (k := k + 1) i ω' f' e
      refine List.mem_cons_of_mem _ ?_
      rw [show k + (i + 1) = k + 1 + i by omega]
      exact this
theorem musOf_ctx0 : ∀ {ps : List (PK K)} {k : Nat} (j : Nat), j ∈ musOf k ps → k ≤ j ∧ ∃ (ω : OTy K) (f : HP ps → ω.τ.α), (ctx0 ps)[j - k]? = some (.ow ω f)
  | [], _, _, h => nomatch h
  | .fz τ :: ps, k, j, h => by
    obtain ⟨h1, ω, f, e⟩ := musOf_ctx0 (ps := ps) (k := k + 1) j h
    refine ⟨by omega, ω, fun s => f s.2, ?_⟩
    rw [show j - k = (j - (k + 1)) + 1 by omega]
    show ((ctx0 ps).map (Slot.comap fun s : HP (.fz τ :: ps) => s.2))[j - (k + 1)]? = _
    rw [List.getElem?_map, e]
    rfl
  | .mu τ :: ps, k, j, h => by
    rcases List.mem_cons.mp h with e | h
    · subst e
      exact ⟨Nat.le_refl _, τ, fun s => s.1, by rw [Nat.sub_self]; rfl⟩
    · obtain ⟨h1, ω, f, e⟩ := musOf_ctx0 (ps := ps) (k := k + 1) j h
      refine ⟨by omega, ω, fun s => f s.2, ?_⟩
      rw [show j - k = (j - (k + 1)) + 1 by omega]
      show ((ctx0 ps).map (Slot.comap fun s : HP (.mu τ :: ps) => s.2))[j - (k + 1)]? = _
      rw [List.getElem?_map, e]
      rfl
def deads (K : PySem.W.Frag) (S : Type) (n : Nat) : Ctx K S := List.replicate n .dead
/-- the context at a def's start -/
def ctxN (n : Nat) (ps : List (PK K)) : Ctx K (HP ps) := ctx0 ps ++ deads K (HP ps) (n - ps.length)
theorem holds_start {ps : List (PK K)} {s : HP ps} {F H : Hp} {vs : List V} {N : List Str} (hh : Holds (ctx0 ps) s F H (vs.map some)) (hn : ps.length ≤ N.length) : Holds (ctxN N.length ps) s F H (L2.start N vs) := by
  have hl : vs.length = ps.length := by have := hh.len; rwa [List.length_map, ctx0_length] at this
  have lm : (vs.map some).length = (ctx0 ps).length := hh.len
  unfold ctxN L2.start deads
  refine ⟨?_, fun i sl o e1 e2 => ?_, fun i j ω ω' f f' p n e1 e2 e3 => ?_⟩
  · rw [List.length_append, List.length_append, lm, List.length_replicate, List.length_replicate, hl]
  · by_cases hi : i < (ctx0 ps).length
    · rw [List.getElem?_append_left hi] at e1
      rw [List.getElem?_append_left (by rw [lm]; exact hi)] at e2
      exact hh.at_ i sl o e1 e2
    · rw [List.getElem?_append_right (by omega), List.getElem?_replicate] at e1
      split at e1
      · cases e1; trivial
      · cases e1
  · have lt : ∀ {i : Nat} {ω : OTy K} {f : HP ps → ω.τ.α}, (ctx0 ps ++ List.replicate (N.length - ps.length) (Slot.dead : Slot K (HP ps)))[i]? = some (.ow ω f) → i < (ctx0 ps).length ∧ (ctx0 ps)[i]? = some (.ow ω f) := fun {i ω f} e => by
      by_cases hi : i < (ctx0 ps).length
      · rw [List.getElem?_append_left hi] at e
        exact ⟨hi, e⟩
      · rw [List.getElem?_append_right (by omega), List.getElem?_replicate] at e
        split at e <;> cases e
    obtain ⟨l1, k1⟩ := lt e1
    obtain ⟨l2, k2⟩ := lt e2
    rw [List.getElem?_append_left (by rw [lm]; exact l1)] at e3
    rw [List.getElem?_append_left (by rw [lm]; exact l2)]
    exact hh.sep i j ω ω' f f' p n k1 k2 e3
theorem start_at {N : List Str} {vs : List V} {j : Nat} (h : j < vs.length) : (L2.start N vs)[j]? = (vs.map some)[j]? := by
  unfold L2.start
  rw [List.getElem?_append_left (by rw [List.length_map]; exact h)]
/-- THE RULE for a def: its body over data -/
theorem def_ok {P : Program} {w : World} {mg : Str → Option Value} {base : Heap} {y qual : Str} {st : Stmt} {f : Addr} {fd : FuncData} {N ps : List Str} {k : Nat} {R : Type} {fm : Fm K R} {p : HP fm.ps → Prop} {fv : HP fm.ps → R} (F : Fun K y qual st f fd) (Sc : FnScope N ps (defScope st)) (hl : fm.ps.length = ps.length) (hn : ps.length ≤ N.length)
    (hb : ∀ (cdv : Value) (A : Around) (outer : List Env) (s : Shared) (H : Hp) (E : XK), RoomG k (A.deeper (envOfC qual (defScope st) s.heap.objs.size f cdv)) →
      ∃ cs, (∀ s, p s → Conj cs s) ∧ DB K (cxOf CX0 P w K mg base N qual (defScope st) f cdv A outer s H E).nox fm (ctxN N.length fm.ps) (defBody st) cs fv) : FnG P w K mg base CX0 (k + 1) f fd ps (SpOf fm p fv) := by
  refine fn_g F Sc (fun vs H Q E h => (SpOf.len vs H Q E h).trans hl) fun cdv A outer s H vs Q E hr h => ?_
  obtain ⟨F0, d, hh, sm, hp, q⟩ := h
  obtain ⟨cs, hcs, t, ht, ht2⟩ := hb cdv A outer s H E hr
  refine ⟨t, ht.nox, ht2 d F0 H (L2.start N vs) (holds_start hh (by omega)) sm (hcs d hp) _ fun v F1 H1 g ro mo => ?_⟩
  have lv : vs.length = fm.ps.length := by have := hh.len; rwa [List.length_map, ctx0_length] at this
  have mlt : ∀ j ∈ musOf 0 fm.ps, j < vs.length := fun j hj => by
    obtain ⟨_, ω, f, e⟩ := musOf_ctx0 (k := 0) j hj
    have := (List.getElem?_eq_some_iff.mp e).1
    rw [ctx0_length] at this
    omega
  have own : ∀ a, Own (ctxN N.length fm.ps) (L2.start N vs) a → MsAt (musOf 0 fm.ps) (vs.map some) a := fun a ⟨i, ω, f, e1, e2⟩ => by
    have hi : i < (ctx0 fm.ps).length ∧ (ctx0 fm.ps)[i]? = some (.ow ω f) := by
      unfold ctxN deads at e1
      by_cases hi : i < (ctx0 fm.ps).length
      · rw [List.getElem?_append_left hi] at e1
        exact ⟨hi, e1⟩
      · rw [List.getElem?_append_right (by omega), List.getElem?_replicate] at e1
        split at e1 <;> cases e1
    have hm := ctx0_own (k := 0) i ω f hi.2
    rw [Nat.zero_add] at hm
    exact ⟨i, hm, by rw [← start_at (mlt i hm)]; exact e2⟩
  refine q v F1 H1 ⟨g.ff, g.fh, fun a o e => ?_, fun a o e n => g.keep a o e fun z => n (own a z), g.dom⟩ (ro.dom fun b hb => ?_) (mo.congr fun j hj => start_at (mlt j hj))
  · rcases g.fresh a o e with z | z | z
    · exact .inl z
    · exact .inr z
    · -- an own parameter is never frozen: it is told by mo
      obtain ⟨j, hj, e2⟩ := own a z
      have : ∀ {ps : List (PK K)} {k : Nat} {x : HM ps} {σ : L2.St}, MuOk F1 H1 σ k ps x → ∀ j ∈ musOf k ps, ∃ p u, σ[j]? = some (some (.ref p)) ∧ F1 p = none ∧ H1 p = some u := by
        intro ps
        induction ps with
        | nil => intro k x σ _ j h; cases h
        | cons pk ps ih =>
          intro k x σ m j h
          cases pk with
          | fz τ => exact ih m j h
          | mu ω =>
            obtain ⟨⟨p, u, w1, w2, w3, _⟩, t⟩ := m
            rcases List.mem_cons.mp h with e | h
            · subst e; exact ⟨p, u, w1, w2, w3⟩
            · exact ih t j h
      obtain ⟨p, u, w1, w2, _⟩ := this mo j hj
      rw [start_at (mlt j hj), e2] at w1
      cases w1
      rw [w2] at e
      cases e
  · rcases hb.1 with z | z
    · exact z
    · obtain ⟨j, hj, e2⟩ := own b z
      exact absurd (by rw [start_at (mlt j hj)]; exact e2) (hb.2 j hj)

/-- what the arguments make the callee's parameters -/
theorem Ar.holds {s : S} {F H : Hp} {σ : L2.St} (hh : Holds Δ s F H σ) (sm : Same F H) {as : List (AK K S)} {ps : List (PK K)} {g : S → HP ps} (ha : Ar Δ as ps g) : ∀ {vs : List V}, AkAll F σ s as vs → (lent as).Nodup → Holds (ctx0 ps) (g s) F H (vs.map some) ∧ ∀ (k : Nat) (ω : OTy K) (f : HP ps → ω.τ.α) (a : Addr), (ctx0 ps)[k]? = some (.ow ω f) → (vs.map some)[k]? = some (some (.ref a)) → ∃ j ∈ lent as, σ[j]? = some (some (.ref a)) ∧ ∃ (ω' : OTy K) (f' : S → ω'.τ.α), Δ[j]? = some (.ow ω' f') := by
  induction ha with
  | nil =>
    intro vs r _
    rw [show vs = [] from r]
    exact ⟨⟨rfl, fun i sl o e => by simp [ctx0] at e, fun i j ω ω' f f' p n e => by simp [ctx0] at e⟩, fun k ω f a e => by simp [ctx0] at e⟩
  | @fz τ h as ps g t ih =>
    rintro vs ⟨v, r, rfl, rv, rr⟩ nd
    obtain ⟨ih1, ih2⟩ := ih rr nd
    have up : ∀ {k : Nat} {ω : OTy K} {f : HP (.fz τ :: ps) → ω.τ.α}, (ctx0 (.fz τ :: ps))[k]? = some (.ow ω f) → ∃ k', k = k' + 1 ∧ ∃ f', (ctx0 ps)[k']? = some (.ow ω f') := fun {k ω f} e => by
      cases k with
      | zero => simp [ctx0] at e
      | succ k =>
        have e' : ((ctx0 ps).map (Slot.comap fun s : HP (.fz τ :: ps) => s.2))[k]? = some (.ow ω f) := by simpa [ctx0] using e
        rw [List.getElem?_map] at e'
        obtain ⟨sl, q1, q2⟩ := Option.map_eq_some_iff.mp e'
        cases sl with
        | dead => cases q2
        | fz _ _ => cases q2
        | ow ω' f' => cases q2; exact ⟨k, rfl, f', q1⟩
    refine ⟨⟨?_, fun i sl o e1 e2 => ?_, fun i j ω ω' f f' p n e1 e2 e3 => ?_⟩, fun k ω f a e1 e2 => ?_⟩
    · have := ih1.len
      rw [List.length_map, ctx0_length] at this
      rw [ctx0_length, List.length_map, List.length_cons, List.length_cons, this]
    · cases i with
      | zero =>
        have e1' : (Slot.fz τ fun s : HP (.fz τ :: ps) => s.1) = sl := by simpa [ctx0] using e1
        have e2' : some v = o := by simpa using e2
        subst e1' e2'
        exact ⟨v, rfl, rv⟩
      | succ i =>
        have e1' : ((ctx0 ps).map (Slot.comap fun s : HP (.fz τ :: ps) => s.2))[i]? = some sl := by simpa [ctx0] using e1
        rw [List.getElem?_map] at e1'
        obtain ⟨sl', q1, q2⟩ := Option.map_eq_some_iff.mp e1'
        have := ih1.at_ i sl' o q1 (by simpa using e2)
        subst q2
        cases sl' <;> exact this
    · obtain ⟨k1, rfl, f1, q1⟩ := up e1
      obtain ⟨k2, rfl, f2, q2⟩ := up e2
      exact ih1.sep k1 k2 ω ω' f1 f2 p (by omega) q1 q2 (by simpa using e3)
    · obtain ⟨k1, rfl, f1, q1⟩ := up e1
      exact ih2 k1 ω f1 a q1 (by simpa using e2)
  | @mu j ω f as ps g e0 t ih =>
    rintro vs ⟨v, r, rfl, rv, rr⟩ nd
    have nd' : j ∉ lent as ∧ (lent as).Nodup := List.nodup_cons.mp nd
    obtain ⟨ih1, ih2⟩ := ih rr nd'.2
    obtain ⟨p0, u0, w1, w2, w3, w4⟩ := own_at hh e0
    have ev : v = .ref p0 := by
      have rv' : σ[j]? = some (some v) := rv
      rw [w1] at rv'
      cases rv'
      rfl
    subst ev
    have up : ∀ {k : Nat} {ω1 : OTy K} {f1 : HP (.mu ω :: ps) → ω1.τ.α}, (ctx0 (.mu ω :: ps))[k + 1]? = some (.ow ω1 f1) → ∃ f', (ctx0 ps)[k]? = some (.ow ω1 f') := fun {k ω1 f1} e => by
      have e' : ((ctx0 ps).map (Slot.comap fun s : HP (.mu ω :: ps) => s.2))[k]? = some (.ow ω1 f1) := by simpa [ctx0] using e
      rw [List.getElem?_map] at e'
      obtain ⟨sl, q1, q2⟩ := Option.map_eq_some_iff.mp e'
      cases sl with
      | dead => cases q2
      | fz _ _ => cases q2
      | ow ω' f' => cases q2; exact ⟨f', q1⟩
    have far : ∀ {k : Nat} {ω1 : OTy K} {f1 : HP ps → ω1.τ.α}, (ctx0 ps)[k]? = some (.ow ω1 f1) → (r.map some)[k]? ≠ some (some (.ref p0)) := fun {k ω1 f1} e z => by
      obtain ⟨j', hj', e1, ω2, f2, e2⟩ := ih2 k ω1 f1 p0 e z
      exact hh.sep j j' ω ω2 f f2 p0 (fun q => nd'.1 (q ▸ hj')) e0 e2 w1 e1
    refine ⟨⟨?_, fun i sl o e1 e2 => ?_, fun i k ω1 ω2 f1 f2 p n e1 e2 e3 => ?_⟩, fun k ω1 f1 a e1 e2 => ?_⟩
    · have := ih1.len
      rw [List.length_map, ctx0_length] at this
      rw [ctx0_length, List.length_map, List.length_cons, List.length_cons, this]
    · cases i with
      | zero =>
        have e1' : (Slot.ow ω fun s : HP (.mu ω :: ps) => s.1) = sl := by simpa [ctx0] using e1
        have e2' : some (V.ref p0) = o := by simpa using e2
        subst e1' e2'
        exact ⟨p0, u0, rfl, w2, w3, w4⟩
      | succ i =>
        have e1' : ((ctx0 ps).map (Slot.comap fun s : HP (.mu ω :: ps) => s.2))[i]? = some sl := by simpa [ctx0] using e1
        rw [List.getElem?_map] at e1'
        obtain ⟨sl', q1, q2⟩ := Option.map_eq_some_iff.mp e1'
        have := ih1.at_ i sl' o q1 (by simpa using e2)
        subst q2
        cases sl' <;> exact this
    · cases i with
      | zero =>
        have e3' : p0 = p := by simpa using e3
        subst e3'
        cases k with
        | zero => exact absurd rfl n
        | succ k =>
          obtain ⟨f', q⟩ := up e2
          simpa using far q
      | succ i =>
        obtain ⟨f', q⟩ := up e1
        cases k with
        | zero =>
          intro z
          have z' : p0 = p := by simpa using z
          subst z'
          exact far q (by simpa using e3)
        | succ k =>
          obtain ⟨f'', q2⟩ := up e2
          exact ih1.sep i k ω1 ω2 f' f'' p (by omega) q q2 (by simpa using e3)
    · cases k with
      | zero =>
        have e2' : p0 = a := by simpa using e2
        subst e2'
        exact ⟨j, List.mem_cons_self .., w1, ω, f, e0⟩
      | succ k =>
        obtain ⟨f', q⟩ := up e1
        obtain ⟨j', hj', r1⟩ := ih2 k ω1 f' a q (by simpa using e2)
        exact ⟨j', List.mem_cons_of_mem _ hj', r1⟩
theorem Ar.muts {as : List (AK K S)} {ps : List (PK K)} {g : S → HP ps} (ha : Ar Δ as ps g) : ∀ (k : Nat) {vs : List V} {F : Hp} {σ : L2.St} {s : S} {us : List (Option V)}, us.length = k → AkAll F σ s as vs → ∀ j ∈ musOf k ps, ∀ a, (us ++ vs.map some)[j]? = some (some (.ref a)) → MsAt (lent as) σ a := by
  induction ha with
  | nil => intro k vs F σ s us _ _ j h; cases h
  | @fz τ h as ps g t ih =>
    rintro k vs F σ s us hu ⟨v, r, rfl, rv, rr⟩ j hj a e
    exact ih (k + 1) (us := us ++ [some v]) (by rw [List.length_append, hu]; rfl) rr j hj a (by simpa using e)
  | @mu j0 ω f as ps g e0 t ih =>
    rintro k vs F σ s us hu ⟨v, r, rfl, rv, rr⟩ j hj a e
    rcases List.mem_cons.mp hj with z | z
    · subst z
      rw [List.getElem?_append_right (by omega), hu, Nat.sub_self] at e
      have e' : v = .ref a := by simpa using e
      subst e'
      exact ⟨j0, List.mem_cons_self .., rv⟩
    · obtain ⟨i, h1, h2⟩ := ih (k + 1) (us := us ++ [some v]) (by rw [List.length_append, hu]; rfl) rr j z a (by simpa using e)
      exact ⟨i, List.mem_cons_of_mem _ h1, h2⟩
/-- behind the call, from what the callee says of the lent objects -/
theorem Up.holds {as : List (AK K S)} {ps : List (PK K)} {r : S → HM ps} {s : S} {F1 H1 : Hp} {σ : L2.St} {Δ Δ2 : Ctx K S} (up : Up Δ as ps r Δ2) : ∀ {k : Nat} {vs : List V} {us : List (Option V)} {F : Hp}, us.length = k → AkAll F σ s as vs → (lent as).Nodup → MuOk F1 H1 (us ++ vs.map some) k ps (r s) →
    (∀ j ∈ lent as, ∃ (ω : OTy K) (f : S → ω.τ.α), Δ[j]? = some (.ow ω f)) → Δ.length = σ.length →
    (∀ i sl o, i ∉ lent as → Δ[i]? = some sl → σ[i]? = some o → SlotOk F1 H1 s o sl) →
    (∀ (i j : Nat) (ω ω' : OTy K) (f : S → ω.τ.α) (f' : S → ω'.τ.α) (p : Addr), i ≠ j → Δ[i]? = some (.ow ω f) → Δ[j]? = some (.ow ω' f') → σ[i]? = some (some (.ref p)) → σ[j]? ≠ some (some (.ref p))) →
    Holds Δ2 s F1 H1 σ ∧ Diff (lent as) Δ Δ2 := by
  induction up with
  | nil =>
    intro k vs us F _ _ _ _ _ hl h sp
    exact ⟨⟨hl.symm, fun i sl o e1 e2 => h i sl o (fun z => nomatch z) e1 e2, sp⟩, Diff.refl⟩
  | fz t ih =>
    rintro k vs us F hu ⟨v, r, rfl, rv, rr⟩ nd mo ow hl h sp
    exact ih (k := k + 1) (us := us ++ [some v]) (by rw [List.length_append, hu]; rfl) rr nd (by rw [List.append_assoc]; exact mo) ow hl h sp
  | @mu Δ Δ1 j ω as ps r t ih =>
    rintro k vs us F hu ⟨v, w, rfl, rv, rr⟩ nd mo ow hl h sp
    have nd' : j ∉ lent as ∧ (lent as).Nodup := List.nodup_cons.mp nd
    obtain ⟨⟨p, u, e1, e2, e3, e4⟩, mo'⟩ := mo
    rw [List.getElem?_append_right (by omega), hu, Nat.sub_self] at e1
    have ev : v = .ref p := by simpa using e1
    subst ev
    obtain ⟨ω0, f0, h0⟩ := ow j (List.mem_cons_self ..)
    have hj : j < Δ.length := (List.getElem?_eq_some_iff.mp h0).1
    have back : ∀ {i : Nat} {ω1 : OTy K} {f1 : S → ω1.τ.α}, (Δ.set j (.ow ω fun s => (r s).1))[i]? = some (.ow ω1 f1) → ∃ (ω' : OTy K) (f' : S → ω'.τ.α), Δ[i]? = some (.ow ω' f') := fun {i ω1 f1} e => by
      rcases get_set1 e with ⟨rfl, _, _⟩ | ⟨_, e⟩
      · exact ⟨_, _, h0⟩
      · exact ⟨_, _, e⟩
    obtain ⟨r1, r2⟩ := ih (k := k + 1) (us := us ++ [some (.ref p)]) (by rw [List.length_append, hu]; rfl) rr nd'.2 (by rw [List.append_assoc]; exact mo') (fun i hi => by
        obtain ⟨ω', f', e⟩ := ow i (List.mem_cons_of_mem _ hi)
        exact ⟨ω', f', by rw [List.getElem?_set_ne fun (z : j = i) => nd'.1 (z ▸ hi)]; exact e⟩)
      (by rw [List.length_set]; exact hl) (fun i sl o ni e5 e6 => by
        rcases get_set1 e5 with ⟨rfl, rfl, _⟩ | ⟨n, e5⟩
        · have rv' : σ[j]? = some (some (.ref p)) := rv
          rw [rv'] at e6; cases e6
          exact ⟨p, u, rfl, e2, e3, e4⟩
        · exact h i sl o (fun z => (List.mem_cons.mp z).elim (fun q => n q.symm) ni) e5 e6)
      (fun i k ω1 ω2 f1 f2 q ne e5 e6 e7 => by
        obtain ⟨_, _, q1⟩ := back e5
        obtain ⟨_, _, q2⟩ := back e6
        exact sp i k _ _ _ _ q ne q1 q2 e7)
    refine ⟨r1, ?_⟩
    have d0 : Diff [j] Δ (Δ.set j (.ow ω fun s => (r s).1)) := ⟨List.length_set .., fun i n => List.getElem?_set_ne fun z => n (by rw [z]; exact List.mem_singleton.mpr rfl), fun i ω1 f1 e => back e⟩
    exact d0.trans r2

/-- f(e, ..) -/
theorem DX.call {k : Nat} {f : Addr} {fd : FuncData} {ps : List Str} {R' : Type} {fm : Fm K R'} {p : HP fm.ps → Prop} {fv : HP fm.ps → R'} {as : List (AK K S)} {g : S → HP fm.ps} {px : Pos} {t : TA} (G : FnG X.prog X.w X.K X.mg X.base CX0 k f fd ps (SpOf fm p fv)) (hr : RoomG k X.A) (hg : Gl X x) (hm : X.mg x = some (.ref f)) (hk : PySem.W.keepIn X.K (.ref f) = true) (hb : Binds X.K fd ps [])
    (ha : DA K X Δ (e :: es) m1 c1 Δ1 as t) (har : Ar Δ1 as fm.ps g) (hup : Up Δ1 as fm.ps (fun s => fm.mv (fv (g s))) Δ2) (hnd : (lent as).Nodup) (hret : fm.ret = .fz τ) {fr : S → τ.α} (hf : ∀ s, HEq (fm.res (fv (g s))) (fr s)) (how : OwnAll Δ1 (lent as)) (hdb : (x == ("__debug__" : Str)) = false := by decide) (he : starEach (e :: es) X.env = (false, eval e X.env) :: starEach es X.env := by rfl) (hpl : (backTo pos (starEach es X.env)).any (·.1) = false := by rfl) :
    DX K X Δ (.Call (.Name x px) (e :: es) [] pos) τ (m1 ++ lent as) (c1 ++ [fun s => p (g s)]) Δ2 fr (tCall (SpOf fm p fv) [] E0 t) := by
  obtain ⟨d1, pa, ra⟩ := ha
  have dd : Diff (lent as) Δ1 Δ2 := by
    clear ra
    have : ∀ {ps : List (PK K)} {r : S → HM ps} {as : List (AK K S)} {Δ Δ2 : Ctx K S}, Up Δ as ps r Δ2 → OwnAll Δ (lent as) → Diff (lent as) Δ Δ2 := by
      intro ps r as Δ Δ2 u
      induction u with
      | nil => intro _; exact Diff.refl
      | fz _ ih => exact ih
      | @mu Δ Δ1 j ω as ps r t ih =>
        rintro ⟨⟨ω0, f0, h0⟩, ow⟩
        have back : ∀ {i : Nat} {ω1 : OTy K} {f1 : S → ω1.τ.α}, Δ[i]? = some (.ow ω1 f1) → ∃ (ω' : OTy K) (f' : S → ω'.τ.α), (Δ.set j (.ow ω fun s => (r s).1))[i]? = some (.ow ω' f') := fun {i ω1 f1} e => by
          by_cases z : j = i
          · subst z
            exact ⟨_, _, List.getElem?_set_self (List.getElem?_eq_some_iff.mp e).1⟩
          · exact ⟨_, _, by rw [List.getElem?_set_ne z]; exact e⟩
        have ow' : ∀ {l : List Nat}, OwnAll Δ l → OwnAll (Δ.set j (.ow ω fun s => (r s).1)) l := by
          intro l
          induction l with
          | nil => intro _; trivial
          | cons a l ih2 =>
            rintro ⟨⟨_, _, w⟩, w2⟩
            exact ⟨back w, ih2 w2⟩
        have d0 : Diff [j] Δ (Δ.set j (.ow ω fun s => (r s).1)) := ⟨List.length_set .., fun i n => List.getElem?_set_ne fun z => n (by rw [z]; exact List.mem_singleton.mpr rfl), fun i ω1 f1 e => by
          rcases get_set1 e with ⟨rfl, _, _⟩ | ⟨_, e⟩
          · exact ⟨_, _, h0⟩
          · exact ⟨_, _, e⟩⟩
        exact d0.trans (ih (ow' ow))
    exact this hup how
  refine ⟨d1.trans dd, pe_callg G hr hg hm hk hb pass0 pa hdb he hpl, fun s F H σ hh sm hc Q q => ?_⟩
  obtain ⟨k1, k2, _⟩ := conj_app hc
  refine ra s F H σ hh sm k1 _ fun vs F1 H1 g1 hh1 r1 => ?_
  show SpOf fm p fv (vs ++ []) H1 Q E0
  rw [List.append_nil]
  obtain ⟨w1, w2⟩ := har.holds hh1 g1.fh r1 hnd
  refine ⟨F1, g s, w1, g1.fh, k2, fun v F2 H2 g2 ro mo => ?_⟩
  have g2' : Gr (MsAt (lent as) σ) F1 H1 F2 H2 := g2.mono fun a ⟨j, hj, e⟩ => har.muts 0 (us := []) rfl r1 j hj a e
  have hh2 := (hup.holds (k := 0) (us := []) rfl r1 hnd mo how.all hh1.len.symm (fun i sl o ni e1 e2 => ?_) hh1.sep).1
  · refine q v F2 H2 ((g1.mono (msAt_l (m2 := lent as))).trans (g2'.mono (msAt_r (m1 := m1)))) hh2 ?_
    have := hf s
    revert this ro
    generalize fm.res (fv (g s)) = z
    revert z
    rw [hret]
    intro z ro hz
    rw [← eq_of_heq hz]
    exact ro
  · -- a slot that is not lent
    have r := hh1.at_ i sl o e1 e2
    cases sl with
    | dead => trivial
    | fz τ f => obtain ⟨v, ev, rv⟩ := r; exact ⟨v, ev, τ.mono g2'.ff rv⟩
    | ow ω f =>
      obtain ⟨p1, u1, ev, n1, h1, o1⟩ := r
      subst ev
      have nl : ¬ MsAt (lent as) σ p1 := fun ⟨j, hj, e3⟩ => by
        obtain ⟨ω', f', e4⟩ := how.all j hj
        exact hh1.sep i j ω ω' f f' p1 (fun z => ni (z ▸ hj)) e1 e4 e2 e3
      refine ⟨p1, u1, rfl, ?_, g2'.keep _ _ h1 nl, ω.mono g2'.ff o1⟩
      cases y : F2 p1 with
      | none => rfl
      | some o' =>
        rcases g2'.fresh p1 o' y with z | z
        · rw [n1] at z; cases z
        · rw [h1] at z; cases z
end
end Dx

/-! Dx, part G: what is walked, for, comprehensions. -/
namespace Dx
open PySem PySem.Spec PyProof.Rows L2
section
variable {K : PySem.W.Frag}
structure Walks (K : PySem.W.Frag) (J : It) (F0 : Hp) (τ : Ty K) (xs : List τ.α) : Prop where
  go : ∀ (i : Nat) (x : τ.α) (F H : Hp), Same F0 F → Same F H → xs[i]? = some x → J.go i H ∧ ∀ v H', J.yld i H v H' → ∃ F', Gr No F H F' H' ∧ τ.rep F' v x
  stop : ∀ (i : Nat) (F H : Hp), Same F0 F → Same F H → xs.length ≤ i → J.stop i H
  len : xs.length ≤ sizeLine
def DI {S : Type} (K : PySem.W.Frag) (X : Cx) (Δ : Ctx K S) (tg iter : Expr) (τ : Ty K) (ms : List Nat) (cs : List (S → Prop)) (Δ1 : Ctx K S) (f : S → List τ.α) (wi : TI) : Prop :=
  Diff ms Δ Δ1 ∧ PI X tg iter wi ∧ ∀ s F H σ, Holds Δ s F H σ → Same F H → Conj cs s → ∀ R : It → Hp → Prop, (∀ J F' H', Gr (MsAt ms σ) F H F' H' → Holds Δ1 s F' H' σ → Walks K J F' τ (f s) → R J H') → wi σ H R
def enumL {α : Type} (xs : List α) : List (Int × α) := xs.zipIdx.map fun p => ((p.2 : Int), p.1)
def rangeL (n : Int) : List Int := (List.range n.toNat).map fun (i : Nat) => (i : Int)
def rangeL2 (lo hi : Int) : List Int := (List.range (hi - lo).toNat).map fun (i : Nat) => lo + (i : Int)
theorem enumL_length {α : Type} (xs : List α) : (enumL xs).length = xs.length := by simp [enumL]
theorem enumL_get {α : Type} (xs : List α) (i : Nat) (x : Int × α) (e : (enumL xs)[i]? = some x) : ∃ y, xs[i]? = some y ∧ x = ((i : Int), y) := by
  unfold enumL at e
  rw [List.getElem?_map] at e
  obtain ⟨q, e1, e2⟩ := Option.map_eq_some_iff.mp e
  rw [List.getElem?_zipIdx] at e1
  obtain ⟨y, e3, e4⟩ := Option.map_eq_some_iff.mp e1
  exact ⟨y, e3, by rw [← e2, ← e4]; simp⟩
theorem zip_get {α β : Type} (xs : List α) (ys : List β) (i : Nat) (x : α × β) (e : (List.zip xs ys)[i]? = some x) : xs[i]? = some x.1 ∧ ys[i]? = some x.2 := List.getElem?_zip_eq_some.mp e
theorem zip_len {α β : Type} (xs : List α) (ys : List β) : (List.zip xs ys).length = min xs.length ys.length := List.length_zip
theorem sq_inj {F : Hp} {a : Addr} {xs ys : List V} (h1 : F a = some (.lst xs)) (h2 : F a = some (.lst ys)) : xs = ys := by rw [h1] at h2; cases h2; rfl
theorem walks_list {τ : Ty K} {F0 : Hp} {a : Addr} {vs : List V} {xs : List τ.α} (h : SqL K F0 a vs) (p : Paired (τ.rep F0) vs xs) (z : xs.length ≤ sizeLine) : Walks K (Itl K a) F0 τ xs where
  go := fun i x F H s1 s2 e => by
    obtain ⟨v, ev, rv⟩ := paired_at p e
    refine ⟨⟨vs, v, s2.seq (s1.seq h), ev⟩, fun v' H' ⟨e1, e2⟩ => ?_⟩
    subst e1
    have e3 := e2 vs (s2.seq (s1.seq h))
    rw [ev] at e3; cases e3
    exact ⟨F, Gr.refl s2, τ.mono s1 rv⟩
  stop := fun i F H s1 s2 e => ⟨vs, s2.seq (s1.seq h), by rw [p.length]; exact e⟩
  len := z
theorem walks_range {F0 : Hp} {lo : Int} {n : Nat} (z : n ≤ sizeLine) : Walks K (Itr lo n) F0 (tInt K) ((List.range n).map fun (i : Nat) => lo + (i : Int)) where
  go := fun i x F H s1 s2 e => by
    rw [List.getElem?_map] at e
    obtain ⟨j, e1, e2⟩ := Option.map_eq_some_iff.mp e
    have hl := (List.getElem?_eq_some_iff.mp e1).1
    rw [List.length_range] at hl
    rw [List.getElem?_range hl] at e1
    cases e1
    exact ⟨hl, fun v H' ⟨e3, e4⟩ => by
      subst e3
      exact ⟨F, Gr.refl s2, by rw [e4, ← e2]⟩⟩
  stop := fun i F H s1 s2 e => by
    rw [List.length_map, List.length_range] at e
    exact e
  len := by rw [List.length_map, List.length_range]; exact z
theorem new_tup {F H : Hp} {T : Addr} {vs : List V} (sm : Same F H) (n : H T = none) : Gr No F H (upd F T (.tup vs)) (upd H T (.tup vs)) := Gr.new sm n
theorem walks_enum {τ : Ty K} {F0 : Hp} {a : Addr} {vs : List V} {xs : List τ.α} (h : SqL K F0 a vs) (p : Paired (τ.rep F0) vs xs) (z : xs.length ≤ sizeLine) : Walks K (Ite K a) F0 (tTp [tInt K, τ]) (enumL xs) where
  go := fun i x F H s1 s2 e => by
    obtain ⟨y, e3, rfl⟩ := enumL_get (α := τ.α) xs i x e
    obtain ⟨v, ev, rv⟩ := paired_at p e3
    refine ⟨⟨vs, v, s2.seq (s1.seq h), ev⟩, fun v' H' ⟨T, w, r1, r2, r3, r4⟩ => ?_⟩
    have e5 := r4 vs (s2.seq (s1.seq h))
    rw [ev] at e5; cases e5
    subst r1 r3
    exact ⟨_, new_tup s2 r2, T, _, rfl, upd_same, .int (i : Nat), [v], rfl, rfl, v, rfl, τ.mono (s1.trans (same_new (s2.free r2))) rv⟩
  stop := fun i F H s1 s2 e => ⟨vs, s2.seq (s1.seq h), by rw [p.length]; exact (enumL_length (α := τ.α) xs) ▸ e⟩
  len := (enumL_length (α := τ.α) xs).symm ▸ z
theorem walks_zip {τ σ : Ty K} {F0 : Hp} {a b : Addr} {vs ws : List V} {xs : List τ.α} {ys : List σ.α} (h : SqL K F0 a vs) (p : Paired (τ.rep F0) vs xs) (z : xs.length ≤ sizeLine) (h2 : SqL K F0 b ws) (p2 : Paired (σ.rep F0) ws ys) : Walks K (Itz K a b) F0 (tTp [τ, σ]) (List.zip xs ys) where
  go := fun i x F H s1 s2 e => by
    obtain ⟨e1, e2⟩ := zip_get (α := τ.α) (β := σ.α) xs ys i x e
    obtain ⟨v, ev, rv⟩ := paired_at p e1
    obtain ⟨w, ew, rw'⟩ := paired_at p2 e2
    refine ⟨⟨vs, ws, v, w, s2.seq (s1.seq h), s2.seq (s1.seq h2), ev, ew⟩, fun v' H' ⟨T, y1, y2, r1, r2, r3, r4, r5⟩ => ?_⟩
    have e5 := r4 vs (s2.seq (s1.seq h))
    rw [ev] at e5; cases e5
    have e6 := r5 ws (s2.seq (s1.seq h2))
    rw [ew] at e6; cases e6
    subst r1 r3
    have sf := s1.trans (same_new (o := .tup [v, w]) (s2.free r2))
    exact ⟨_, new_tup s2 r2, T, _, rfl, upd_same, v, [w], rfl, τ.mono sf rv, w, rfl, σ.mono sf rw'⟩
  stop := fun i F H s1 s2 e => by
    have e := (zip_len (α := τ.α) (β := σ.α) xs ys) ▸ e
    exact ⟨vs, ws, s2.seq (s1.seq h), s2.seq (s1.seq h2), by rw [p.length, p2.length]; omega⟩
  len := (zip_len (α := τ.α) (β := σ.α) xs ys).symm ▸ (by omega)
end
section
variable {K : PySem.W.Frag} {X : Cx} {S R : Type} {fm : Fm K R} {Δ Δ1 Δ2 Δ3 Δa Δb Δj : Ctx K S} {st : Stmt} {sts body : List Stmt} {e a b c tg iter : Expr} {es elts : List Expr} {pos p' apos : Pos} {τ τ1 τ2 L L2' : Ty K} {ts : List (Ty K)} {ω : OTy K} {mus ms m1 m2 is : List Nat} {c1 c2 c3 cs : List (S → Prop)} {ta tb : TE} {tx : TT} {tl : TA} {i : Nat} {x : Str}
theorem DI.list {to : L.α → List τ.α} {f : S → L.α} (hl : LL L τ to) (he : DX K X Δ e L ms c1 Δ1 f ta) (hK : X.K = K := by rfl) : DI K X Δ tg e τ ms c1 Δ1 (fun s => to (f s)) (iList K ta) := by
  subst hK
  obtain ⟨d1, p, r⟩ := he
  refine ⟨d1, pi_list p, fun s F H σ hh sm hc R q => r s F H σ hh sm hc _ fun v F1 H1 g1 hh1 r1 => ?_⟩
  obtain ⟨a, vs, ev, sq, pr, z⟩ := hl r1
  exact ⟨a, ev, ⟨vs, g1.fh.seq sq⟩, q _ F1 H1 g1 hh1 (walks_list sq pr z)⟩
def RgOk (n : Int) : Prop := -(2 ^ 62) ≤ n ∧ n ≤ sizeLine
def RgOk2 (lo hi : Int) : Prop := -(2 ^ 62) ≤ lo ∧ lo < 2 ^ 62 ∧ -(2 ^ 62) ≤ hi ∧ hi < 2 ^ 62 ∧ hi - lo ≤ sizeLine
theorem DI.range1 {f : S → Int} {px : Pos} (hm : X.mg "range" = none) (he : DX K X Δ e (tInt K) ms c1 Δ1 f ta) (hg : Gl X "range" := by rfl) (hs : starEach [e] X.env = [(false, eval e X.env)] := by rfl) (hs2 : starEach [e] X.env = (false, eval e X.env) :: starEach [] X.env := by rfl) : DI K X Δ tg (.Call (.Name "range" px) [e] [] pos) (tInt K) ms (c1 ++ [fun s => RgOk (f s)]) Δ1 (fun s => rangeL (f s)) (iRng1 (tCons ta tNil)) := by
  obtain ⟨d1, p, r⟩ := he
  refine ⟨d1, pi_range1 hg hm (pa_cons p pa_nil hs2) hs, fun s F H σ hh sm hc R q => ?_⟩
  obtain ⟨k1, ⟨k2, k3⟩, _⟩ := conj_app hc
  refine r s F H σ hh sm k1 _ fun v F1 H1 g1 hh1 r1 => ⟨f s, by rw [r1], k2, ?_, q _ F1 H1 g1 hh1 ?_⟩
  · have : (sizeLine : Int) < 2 ^ 62 := by decide
    omega
  · have h := walks_range (K := K) (F0 := F1) (lo := 0) (n := (f s).toNat) (by omega)
    simp only [Int.zero_add] at h
    exact h
theorem DI.range2 {f g : S → Int} {px : Pos} (hm : X.mg "range" = none) (he : DX K X Δ a (tInt K) m1 c1 Δ1 f ta) (hb : DX K X Δ1 b (tInt K) m2 c2 Δ2 g tb) (hg : Gl X "range" := by rfl) (hs : starEach [a, b] X.env = [(false, eval a X.env), (false, eval b X.env)] := by rfl) (hs2 : starEach [b] X.env = [(false, eval b X.env)] := by rfl) (hs3 : starEach [a, b] X.env = (false, eval a X.env) :: starEach [b] X.env := by rfl) (hs4 : starEach [b] X.env = (false, eval b X.env) :: starEach [] X.env := by rfl) :
    DI K X Δ tg (.Call (.Name "range" px) [a, b] [] pos) (tInt K) (m1 ++ m2) (c1 ++ (c2 ++ [fun s => RgOk2 (f s) (g s)])) Δ2 (fun s => rangeL2 (f s) (g s)) (iRng2 (tCons ta (tCons tb tNil))) := by
  obtain ⟨d1, p, r⟩ := he
  obtain ⟨d2, p2, r2⟩ := hb
  refine ⟨d1.trans d2, pi_range2 hg hm (pa_cons p (pa_cons p2 pa_nil hs4) hs3) hs hs2, fun s F H σ hh sm hc R q => ?_⟩
  obtain ⟨k1, k2⟩ := conj_app hc
  obtain ⟨k2, ⟨k3, k4, k5, k6, k7⟩, _⟩ := conj_app k2
  refine r s F H σ hh sm k1 _ fun v F1 H1 g1 hh1 r1 => r2 s F1 H1 σ hh1 g1.fh k2 _ fun w F2 H2 g2 hh2 r3 => ⟨f s, g s, by rw [show v = .int (f s) from r1, show w = .int (g s) from r3], ⟨k3, k4, k5, k6⟩, q _ F2 H2 ((g1.mono (msAt_l (m2 := m2))).trans (g2.mono (msAt_r (m1 := m1)))) hh2 ?_⟩
  exact walks_range (K := K) (F0 := F2) (lo := f s) (n := (g s - f s).toNat) (by omega)
theorem DI.enum {to : L.α → List τ.α} {f : S → L.α} {px tpos : Pos} {kk : Nat} (hl : LL L τ to) (hm : X.mg "enumerate" = none) (he : DX K X Δ e L ms c1 Δ1 f ta) (hg : Gl X "enumerate" := by rfl) (hs : starEach [e] X.env = [(false, eval e X.env)] := by rfl) (hs2 : starEach [e] X.env = (false, eval e X.env) :: starEach [] X.env := by rfl) (hK : X.K = K := by rfl) :
    DI K X Δ (.Tuple elts kk tpos) (.Call (.Name "enumerate" px) [e] [] pos) (tTp [tInt K, τ]) ms c1 Δ1 (fun s => enumL (to (f s))) (iEnum K (tCons ta tNil)) := by
  subst hK
  obtain ⟨d1, p, r⟩ := he
  refine ⟨d1, pi_enum hg hm (pa_cons p pa_nil hs2) hs, fun s F H σ hh sm hc R q => r s F H σ hh sm hc _ fun v F1 H1 g1 hh1 r1 => ?_⟩
  obtain ⟨a, vs, ev, sq, pr, z⟩ := hl r1
  exact ⟨a, vs, by rw [ev], g1.fh.seq sq, q _ F1 H1 g1 hh1 (walks_enum sq pr z)⟩
theorem DI.zip {L1 : Ty K} {to : L.α → List τ.α} {to1 : L1.α → List τ1.α} {f : S → L.α} {g : S → L1.α} {px tpos : Pos} {kk : Nat} (hl : LL L τ to) (hl1 : LL L1 τ1 to1) (hm : X.mg "zip" = none) (he : DX K X Δ a L m1 c1 Δ1 f ta) (hb : DX K X Δ1 b L1 m2 c2 Δ2 g tb) (hg : Gl X "zip" := by rfl) (hs : starEach [a, b] X.env = (false, eval a X.env) :: starEach [b] X.env := by rfl) (hs2 : starEach [b] X.env = (false, eval b X.env) :: starEach [] X.env := by rfl)
    (hpl : (backTo pos (starEach [b] X.env)).any (·.1) = false := by rfl) (hK : X.K = K := by rfl) : DI K X Δ (.Tuple elts kk tpos) (.Call (.Name "zip" px) [a, b] [] pos) (tTp [τ, τ1]) (m1 ++ m2) (c1 ++ c2) Δ2 (fun s => List.zip (to (f s)) (to1 (g s))) (iZip K (tCons ta (tCons tb tNil))) := by
  subst hK
  obtain ⟨d1, p, r⟩ := he
  obtain ⟨d2, p2, r2⟩ := hb
  refine ⟨d1.trans d2, pi_zip hg hm (pa_cons p (pa_cons p2 pa_nil hs2) hs) hs hpl, fun s F H σ hh sm hc R q => ?_⟩
  obtain ⟨k1, k2⟩ := conj_app hc
  refine r s F H σ hh sm k1 _ fun v F1 H1 g1 hh1 r1 => r2 s F1 H1 σ hh1 g1.fh k2 _ fun w F2 H2 g2 hh2 r3 => ?_
  obtain ⟨a1, vs, ev, sq, pr, z⟩ := hl (L.mono g2.ff r1)
  obtain ⟨b1, ws, ew, sq2, pr2, z2⟩ := hl1 r3
  exact ⟨a1, b1, vs, ws, by rw [ev, ew], g2.fh.seq sq, g2.fh.seq sq2, q _ F2 H2 ((g1.mono (msAt_l (m2 := m2))).trans (g2.mono (msAt_r (m1 := m1)))) hh2 (walks_zip sq pr z sq2 pr2)⟩
end

/-! ### for -/
section
variable {K : PySem.W.Frag} {S M α : Type}
inductive Head {K : PySem.W.Frag} {S M : Type} (init : S → M) : Ctx K S → Ctx K (S × M) → Prop
  | nil : Head init [] []
  | keep {sl : Slot K S} {Δ : Ctx K S} {Δl : Ctx K (S × M)} : Head init Δ Δl → Head init (sl :: Δ) (sl.comap Prod.fst :: Δl)
  | dead {sl : Slot K S} {Δ : Ctx K S} {Δl : Ctx K (S × M)} : Head init Δ Δl → Head init (sl :: Δ) (.dead :: Δl)
  | fz {τ : Ty K} {f : S → τ.α} {Δ : Ctx K S} {Δl : Ctx K (S × M)} (pr : M → τ.α) : (∀ s, f s = pr (init s)) → Head init Δ Δl → Head init (.fz τ f :: Δ) (.fz τ (fun t => pr t.2) :: Δl)
  | ow {ω : OTy K} {f : S → ω.τ.α} {Δ : Ctx K S} {Δl : Ctx K (S × M)} (pr : M → ω.τ.α) : (∀ s, f s = pr (init s)) → Head init Δ Δl → Head init (.ow ω f :: Δ) (.ow ω (fun t => pr t.2) :: Δl)
inductive Back {K : PySem.W.Frag} {S M α : Type} (step : (S × M) × α → M) : Ctx K ((S × M) × α) → Ctx K (S × M) → Prop
  | nil : Back step [] []
  | keep {sl : Slot K S} {Δe : Ctx K ((S × M) × α)} {Δl : Ctx K (S × M)} : Back step Δe Δl → Back step (Slot.comap Prod.fst (sl.comap (T := S × M) Prod.fst) :: Δe) (sl.comap Prod.fst :: Δl)
  | dead {sl : Slot K ((S × M) × α)} {Δe : Ctx K ((S × M) × α)} {Δl : Ctx K (S × M)} : Back step Δe Δl → Back step (sl :: Δe) (.dead :: Δl)
  | fz {τ : Ty K} {fe : (S × M) × α → τ.α} {pr : M → τ.α} {Δe : Ctx K ((S × M) × α)} {Δl : Ctx K (S × M)} : (∀ u, fe u = pr (step u)) → Back step Δe Δl → Back step (.fz τ fe :: Δe) (.fz τ (fun t => pr t.2) :: Δl)
  | ow {ω : OTy K} {fe : (S × M) × α → ω.τ.α} {pr : M → ω.τ.α} {Δe : Ctx K ((S × M) × α)} {Δl : Ctx K (S × M)} : (∀ u, fe u = pr (step u)) → Back step Δe Δl → Back step (.ow ω fe :: Δe) (.ow ω (fun t => pr t.2) :: Δl)
theorem Head.as {init : S → M} {Δ : Ctx K S} {Δl : Ctx K (S × M)} (h : Head init Δ Δl) (s : S) : AsC Δ s Δl (s, init s) := by
  induction h with
  | nil => exact .nil
  | @keep sl _ _ _ ih =>
    cases sl with
    | dead => exact .cons (.inl rfl) ih
    | fz τ f => exact .cons (.inr (.inl ⟨τ, f, _, rfl, rfl, rfl⟩)) ih
    | ow ω f => exact .cons (.inr (.inr ⟨ω, f, _, rfl, rfl, rfl⟩)) ih
  | dead _ ih => exact .cons (.inl rfl) ih
  | @fz τ f _ _ pr e _ ih => exact .cons (.inr (.inl ⟨τ, f, _, rfl, rfl, e s⟩)) ih
  | @ow ω f _ _ pr e _ ih => exact .cons (.inr (.inr ⟨ω, f, _, rfl, rfl, e s⟩)) ih
theorem Back.as {step : (S × M) × α → M} {Δe : Ctx K ((S × M) × α)} {Δl : Ctx K (S × M)} (h : Back step Δe Δl) (u : (S × M) × α) : AsC Δe u Δl (u.1.1, step u) := by
  induction h with
  | nil => exact .nil
  | @keep sl _ _ _ ih =>
    cases sl with
    | dead => exact .cons (.inl rfl) ih
    | fz τ f => exact .cons (.inr (.inl ⟨τ, _, _, rfl, rfl, rfl⟩)) ih
    | ow ω f => exact .cons (.inr (.inr ⟨ω, _, _, rfl, rfl, rfl⟩)) ih
  | dead _ ih => exact .cons (.inl rfl) ih
  | @fz τ fe pr _ _ e _ ih => exact .cons (.inr (.inl ⟨τ, _, _, rfl, rfl, e u⟩)) ih
  | @ow ω fe pr _ _ e _ ih => exact .cons (.inr (.inr ⟨ω, _, _, rfl, rfl, e u⟩)) ih
/-- what is asked of every turn -/
def loopC (c : M → α → Prop) (step : M → α → M) : List α → M → Prop
  | [], _ => True
  | x :: xs, m => c m x ∧ loopC c step xs (step m x)
def loopF (step : M → α → M) : List α → M → M
  | [], m => m
  | x :: xs, m => loopF step xs (step m x)
/-- a loop that may return -/
def loopR {R : Type} (r : M → α → Option R) (step : M → α → M) : List α → M → Option R
  | [], _ => none
  | x :: xs, m => match r m x with | some v => some v | none => loopR r step xs (step m x)
def loopCr {R : Type} (c : M → α → Prop) (r : M → α → Option R) (step : M → α → M) : List α → M → Prop
  | [], _ => True
  | x :: xs, m => c m x ∧ (r m x = none → loopCr c r step xs (step m x))
theorem comap_holds {S T : Type} {g : T → S} {Δ : Ctx K S} {t : T} {F H : Hp} {σ : L2.St} (hh : Holds Δ (g t) F H σ) : Holds (Δ.comap g) t F H σ where
  len := by rw [List.length_map]; exact hh.len
  at_ := fun i sl o e1 e2 => by
    rw [List.getElem?_map] at e1
    obtain ⟨sl', q1, q2⟩ := Option.map_eq_some_iff.mp e1
    have r := hh.at_ i sl' o q1 e2
    subst q2
    cases sl' <;> exact r
  sep := fun i j ω ω' f f' p n e1 e2 e3 => by
    have up : ∀ {i : Nat} {ω : OTy K} {f : T → ω.τ.α}, (Δ.comap g)[i]? = some (.ow ω f) → ∃ (f' : S → ω.τ.α), Δ[i]? = some (.ow ω f') := fun {i ω f} e => by
      rw [List.getElem?_map] at e
      obtain ⟨sl', q1, q2⟩ := Option.map_eq_some_iff.mp e
      cases sl' with
      | dead => cases q2
      | fz _ _ => cases q2
      | ow _ f' => cases q2; exact ⟨f', q1⟩
    obtain ⟨_, k1⟩ := up e1
    obtain ⟨_, k2⟩ := up e2
    exact hh.sep i j ω ω' _ _ p n k1 k2 e3
theorem comap_own {S T : Type} {g : T → S} {Δ : Ctx K S} {σ : L2.St} {a : Addr} : Own (Δ.comap g) σ a ↔ Own Δ σ a := by
  constructor
  · rintro ⟨i, ω, f, e1, e2⟩
    rw [List.getElem?_map] at e1
    obtain ⟨sl', q1, q2⟩ := Option.map_eq_some_iff.mp e1
    cases sl' with
    | dead => cases q2
    | fz _ _ => cases q2
    | ow _ f' => cases q2; exact ⟨i, _, f', q1, e2⟩
  · rintro ⟨i, ω, f, e1, e2⟩
    exact ⟨i, ω, fun t => f (g t), by rw [List.getElem?_map, e1]; rfl, e2⟩
/-- the same shape of contexts -/
theorem GrS.shape {A B C D : Type} {mus : List Nat} {Δ : Ctx K A} {Δ1 : Ctx K B} {Δ' : Ctx K C} {Δ1' : Ctx K D} {σ σ1 : L2.St} {F H F1 H1 : Hp} (g : GrS mus Δ σ Δ1 σ1 F H F1 H1) (h : ∀ a, Own Δ σ a ↔ Own Δ' σ a) (h1 : ∀ a, Own Δ1' σ1 a → Own Δ1 σ1 a) : GrS mus Δ' σ Δ1' σ1 F H F1 H1 where
  ff := g.ff
  fh := g.fh
  fresh := fun a o e => (g.fresh a o e).imp id fun z => z.imp id (h a).mp
  keep := fun a o e n => g.keep a o e fun z => n ((h a).mp z)
  dom := g.dom
  own := fun a z => (g.own a (h1 a z)).imp (h a).mp id
  mu := g.mu
theorem GrS.grow {A B : Type} {mus : List Nat} {Δ : Ctx K A} {Δ1 : Ctx K B} {σ σ1 : L2.St} {F H F1 H1 F2 H2 : Hp} (g : GrS mus Δ σ Δ1 σ1 F H F1 H1) (k : Gr No F1 H1 F2 H2) : GrS mus Δ σ Δ1 σ1 F H F2 H2 :=
  g.trans ⟨⟨k.ff, k.fh, fun a o e => (k.fresh a o e).imp id .inl, fun a o e _ => k.keep a o e id, k.dom⟩, fun a z => .inl z, fun _ _ => rfl⟩
end
section
variable {K : PySem.W.Frag} {X : Cx} {S M R : Type} {fm : Fm K R} {Δ Δ1 : Ctx K S} {Δl : Ctx K (S × M)} {body : List Stmt} {tg iter : Expr} {pos : Pos} {τ : Ty K} {Δb Δe : Ctx K ((S × M) × τ.α)} {mus ms is : List Nat} {c1 : List (S → Prop)} {cb : List ((S × M) × τ.α → Prop)} {wi : TI} {g : TG} {fx : S → List τ.α} {init : S → M} {step : (S × M) × τ.α → M}
theorem DS.for_ (hi : DI K X Δ tg iter τ ms c1 Δ1 fx wi) (hm : OwnAll Δ ms) (h0 : Head init Δ1 Δl) (hg : DG K X (Δl.comap Prod.fst) tg τ Prod.snd is Δb g) (his : ∀ j ∈ is, j ∉ mus) (hb : DN K X mus Δb body cb Δe) (hk : Back step Δe Δl)
    (hp : PassesOwn (model X.prog X.w) X.A X.env X.xe := by exact PassesOwn.never) (hc : X.calm = true := by rfl) (hs : ∀ x, foldedSetIterable iter X.env x = pure x := by intro _; rfl) :
    DS K X mus Δ (.For tg iter body [] pos) (c1 ++ [fun s => loopC (fun m x => Conj cb ((s, m), x)) (fun m x => step ((s, m), x)) (fx s) (init s)]) (Δl.comap fun s => (s, loopF (fun m x => step ((s, m), x)) (fx s) (init s))) := by
  obtain ⟨d1, p, r⟩ := hi
  obtain ⟨_, pg, rg⟩ := hg
  obtain ⟨tb, pb, rb⟩ := hb
  refine ⟨_, ps_for hp hc p pg pb hs, fun s F H σ hh sm hcs D q => ?_⟩
  obtain ⟨k1, k2, _⟩ := conj_app hcs
  refine r s F H σ hh sm k1 _ fun J F1 H1 g1 hh1 wk => ?_
  have gs1 : GrS mus Δ σ Δ1 σ F H F1 H1 := gs0 hm d1 hh g1
  have hl := (h0.as s).holds hh1
  have gl := gs1.as (h0.as s)
  refine ⟨fun i k σ' H' => ∃ m F', k = (fx s).length - i ∧ i ≤ (fx s).length ∧ loopF (fun m x => step ((s, m), x)) ((fx s).drop i) m = loopF (fun m x => step ((s, m), x)) (fx s) (init s) ∧ loopC (fun m x => Conj cb ((s, m), x)) (fun m x => step ((s, m), x)) ((fx s).drop i) m ∧
    Same F1 F' ∧ Holds Δl (s, m) F' H' σ' ∧ GrS mus Δ σ Δl σ' F H F' H', ⟨_, init s, F1, rfl, Nat.zero_le _, rfl, k2, Same.refl F1, hl, gl⟩, ?_⟩
  rintro i k σ' H' ⟨m, F', rfl, hi, ef, ec, sf, hh', g'⟩
  by_cases hlt : i < (fx s).length
  · refine .inr ?_
    have ex : (fx s)[i]? = some (fx s)[i] := List.getElem?_eq_getElem hlt
    have ed : (fx s).drop i = (fx s)[i] :: (fx s).drop (i + 1) := List.drop_eq_getElem_cons hlt
    rw [ed] at ef ec
    obtain ⟨w1, w2⟩ := wk.go i _ F' H' sf g'.fh ex
    refine ⟨w1, fun σ2 H2 => ∃ F2, Same F1 F2 ∧ Holds Δl (s, step ((s, m), (fx s)[i])) F2 H2 σ2 ∧ GrS mus Δ σ Δl σ2 F H F2 H2, fun σ2 H2 ⟨F2, y1, y2, y3⟩ => ⟨_, by omega, _, F2, rfl, hlt, ef, ec.2, y1, y2, y3⟩, fun v H2 hy => ?_⟩
    obtain ⟨F2, g2, rv⟩ := w2 v H2 hy
    have hh2 : Holds (Δl.comap Prod.fst) ((s, m), (fx s)[i]) F2 H2 σ' := comap_holds (hh'.grow g2)
    refine rg ((s, m), (fx s)[i]) F2 H2 σ' v hh2 g2.fh rv _ fun σ3 hh3 ow3 nx3 => ?_
    refine rb _ F2 H2 σ3 hh3 g2.fh ec.1 _ fun σ4 F4 H4 g4 hh4 => ?_
    refine ⟨F4, sf.trans (g2.ff.trans g4.ff), (hk.as ((s, m), (fx s)[i])).holds hh4, ?_⟩
    have gt : GrS mus Δl σ' Δb σ3 F2 H2 F2 H2 := ⟨⟨Same.refl F2, g2.fh, fun _ _ e => .inl e, fun _ _ e _ => e, fun _ e => e⟩, fun a z => .inl (comap_own.mp (ow3 a z)), fun k hk => nx3 k fun z => his k z hk⟩
    exact (((g'.grow g2).trans gt).trans g4).as (hk.as ((s, m), (fx s)[i]))
  · refine .inl ⟨wk.stop i F' H' sf g'.fh (by omega), ?_⟩
    have ed : (fx s).drop i = [] := List.drop_eq_nil_of_le (by omega)
    rw [ed] at ef
    have ef' : m = loopF (fun m x => step ((s, m), x)) (fx s) (init s) := ef
    rw [ef'] at hh'
    exact q σ' F' H' (g'.shape (fun _ => Iff.rfl) fun a z => comap_own.mp z) (comap_holds (g := fun s => (s, loopF (fun m x => step ((s, m), x)) (fx s) (init s))) hh')
theorem DSm.for_ {r : (S × M) × τ.α → Option R} (hi : DI K X Δ tg iter τ ms c1 Δ1 fx wi) (hm : OwnAll Δ ms) (h0 : Head init Δ1 Δl) (hg : DG K X (Δl.comap Prod.fst) tg τ Prod.snd is Δb g) (his : ∀ j ∈ is, j ∉ musOf 0 fm.ps) (hb : DM K X fm Δb body cb r Δe) (hk : Back step Δe Δl)
    (hp : PassesOwn (model X.prog X.w) X.A X.env X.xe := by exact PassesOwn.never) (hc : X.calm = true := by rfl) (hs : ∀ x, foldedSetIterable iter X.env x = pure x := by intro _; rfl) :
    DSm K X fm Δ (.For tg iter body [] pos) (c1 ++ [fun s => loopCr (fun m x => Conj cb ((s, m), x)) (fun m x => r ((s, m), x)) (fun m x => step ((s, m), x)) (fx s) (init s)]) (fun s => loopR (fun m x => r ((s, m), x)) (fun m x => step ((s, m), x)) (fx s) (init s)) (Δl.comap fun s => (s, loopF (fun m x => step ((s, m), x)) (fx s) (init s))) := by
  obtain ⟨d1, p, ri⟩ := hi
  obtain ⟨_, pg, rg⟩ := hg
  obtain ⟨tb, pb, rb⟩ := hb
  refine ⟨_, ps_for hp hc p pg pb hs, fun s F H σ hh sm hcs D q1 q2 => ?_⟩
  obtain ⟨k1, k2, _⟩ := conj_app hcs
  refine ri s F H σ hh sm k1 _ fun J F1 H1 g1 hh1 wk => ?_
  have gs1 : GrS (musOf 0 fm.ps) Δ σ Δ1 σ F H F1 H1 := gs0 hm d1 hh g1
  have hl := (h0.as s).holds hh1
  have gl := gs1.as (h0.as s)
  refine ⟨fun i k σ' H' => ∃ m F', k = (fx s).length - i ∧ i ≤ (fx s).length ∧ loopF (fun m x => step ((s, m), x)) ((fx s).drop i) m = loopF (fun m x => step ((s, m), x)) (fx s) (init s) ∧
    loopR (fun m x => r ((s, m), x)) (fun m x => step ((s, m), x)) ((fx s).drop i) m = loopR (fun m x => r ((s, m), x)) (fun m x => step ((s, m), x)) (fx s) (init s) ∧
    loopCr (fun m x => Conj cb ((s, m), x)) (fun m x => r ((s, m), x)) (fun m x => step ((s, m), x)) ((fx s).drop i) m ∧
    Same F1 F' ∧ Holds Δl (s, m) F' H' σ' ∧ GrS (musOf 0 fm.ps) Δ σ Δl σ' F H F' H', ⟨_, init s, F1, rfl, Nat.zero_le _, rfl, rfl, k2, Same.refl F1, hl, gl⟩, ?_⟩
  rintro i k σ' H' ⟨m, F', rfl, hi, ef, er, ec, sf, hh', g'⟩
  by_cases hlt : i < (fx s).length
  · refine .inr ?_
    have ex : (fx s)[i]? = some (fx s)[i] := List.getElem?_eq_getElem hlt
    have ed : (fx s).drop i = (fx s)[i] :: (fx s).drop (i + 1) := List.drop_eq_getElem_cons hlt
    rw [ed] at ef er ec
    obtain ⟨w1, w2⟩ := wk.go i _ F' H' sf g'.fh ex
    refine ⟨w1, fun σ2 H2 => r ((s, m), (fx s)[i]) = none ∧ ∃ F2, Same F1 F2 ∧ Holds Δl (s, step ((s, m), (fx s)[i])) F2 H2 σ2 ∧ GrS (musOf 0 fm.ps) Δ σ Δl σ2 F H F2 H2, fun σ2 H2 ⟨y0, F2, y1, y2, y3⟩ => ⟨_, by omega, _, F2, rfl, hlt, ef, by rw [← er]; simp only [loopR, y0], ec.2 y0, y1, y2, y3⟩, fun v H2 hy => ?_⟩
    obtain ⟨F2, g2, rv⟩ := w2 v H2 hy
    have hh2 : Holds (Δl.comap Prod.fst) ((s, m), (fx s)[i]) F2 H2 σ' := comap_holds (hh'.grow g2)
    refine rg ((s, m), (fx s)[i]) F2 H2 σ' v hh2 g2.fh rv _ fun σ3 hh3 ow3 nx3 => ?_
    have gt : GrS (musOf 0 fm.ps) Δl σ' Δb σ3 F2 H2 F2 H2 := ⟨⟨Same.refl F2, g2.fh, fun _ _ e => .inl e, fun _ _ e _ => e, fun _ e => e⟩, fun a z => .inl (comap_own.mp (ow3 a z)), fun k hk => nx3 k fun z => his k z hk⟩
    have gA : GrS (musOf 0 fm.ps) Δ σ Δb σ3 F H F2 H2 := (g'.grow g2).trans gt
    refine rb _ F2 H2 σ3 hh3 g2.fh ec.1 _ (fun y ey => ?_) fun ey σ4 F4 H4 g4 hh4 => ?_
    · have e1 : loopR (fun m x => r ((s, m), x)) (fun m x => step ((s, m), x)) (fx s) (init s) = some y := by rw [← er]; simp only [loopR, ey]
      exact fun v5 F5 H5 g5 ro mo => q1 y e1 v5 F5 H5 (GrR.after gA g5) (ro.dom fun _ => Fresh.back gA) (mo.congr fun j h => gA.mu j h)
    · exact ⟨ey, F4, sf.trans (g2.ff.trans g4.ff), (hk.as ((s, m), (fx s)[i])).holds hh4, (gA.trans g4).as (hk.as ((s, m), (fx s)[i]))⟩
  · refine .inl ⟨wk.stop i F' H' sf g'.fh (by omega), ?_⟩
    have ed : (fx s).drop i = [] := List.drop_eq_nil_of_le (by omega)
    rw [ed] at ef er
    have ef' : m = loopF (fun m x => step ((s, m), x)) (fx s) (init s) := ef
    rw [ef'] at hh'
    exact q2 er.symm σ' F' H' (g'.shape (fun _ => Iff.rfl) fun a z => comap_own.mp z) (comap_holds (g := fun s => (s, loopF (fun m x => step ((s, m), x)) (fx s) (init s))) hh')
end
end Dx

/-! Dx, part H: comprehensions, two stores at once, built-ins. -/
namespace Dx
open PySem PySem.Spec PyProof.Rows L2
section
variable {K : PySem.W.Frag} {S : Type}
/-- the slots vs forgotten -/
def killL (Δ : Ctx K S) : List Nat → Ctx K S
  | [] => Δ
  | v :: vs => (killL Δ vs).set v .dead
theorem kill_get {Δ : Ctx K S} {i : Nat} {sl : Slot K S} : ∀ {vs : List Nat}, (killL Δ vs)[i]? = some sl → sl = .dead ∨ (i ∉ vs ∧ Δ[i]? = some sl)
  | [], h => .inr ⟨List.not_mem_nil, h⟩
  | v :: vs, h => by
    rcases get_set1 h with ⟨_, e, _⟩ | ⟨n, h⟩
    · exact .inl e
    · rcases kill_get h with e | ⟨n2, e⟩
      · exact .inl e
      · exact .inr ⟨fun z => (List.mem_cons.mp z).elim (fun q => n q.symm) n2, e⟩
theorem kill_len {Δ : Ctx K S} : ∀ {vs : List Nat}, (killL Δ vs).length = Δ.length
  | [] => rfl
  | v :: vs => by unfold killL; rw [List.length_set, kill_len]
theorem kill_holds {Δ : Ctx K S} {s : S} {F H : Hp} {σ : L2.St} {vs : List Nat} (hh : Holds Δ s F H σ) : Holds (killL Δ vs) s F H (wipe σ vs) where
  len := by rw [wipe_length, kill_len]; exact hh.len
  at_ := fun i sl o e1 e2 => by
    rcases kill_get e1 with z | ⟨n, e⟩
    · subst z; trivial
    · rw [wipe_out n] at e2
      exact hh.at_ i sl o e e2
  sep := fun i j ω ω' f f' p n e1 e2 e3 => by
    rcases kill_get e1 with z | ⟨n1, k1⟩
    · cases z
    · rcases kill_get e2 with z | ⟨n2, k2⟩
      · cases z
      · rw [wipe_out n1] at e3
        rw [wipe_out n2]
        exact hh.sep i j ω ω' f f' p n k1 k2 e3
/-- a clause's tests -/
def DTs' {S : Type} (K : PySem.W.Frag) (X : Cx) (Δ : Ctx K S) (ifs : List Expr) (cs : List (S → Prop)) (f : S → Bool) (t : TT) : Prop :=
  PTs X ifs t ∧ ∀ s F H σ, Holds Δ s F H σ → Same F H → Conj cs s → ∀ Q : Bool → Hp → Prop, (∀ F' H', Gr No F H F' H' → Q (f s) H') → t σ H Q
theorem DTs'.nil {X : Cx} {Δ : Ctx K S} : DTs' K X Δ [] [] (fun _ => true) tYes := ⟨pts_nil, fun s F H σ hh sm _ Q q => q F H (Gr.refl sm)⟩
theorem DTs'.one {X : Cx} {Δ : Ctx K S} {c : Expr} {cs : List (S → Prop)} {f : S → Bool} {t : TT} (h : DT K X Δ c [] cs Δ f t) : DTs' K X Δ [c] cs f t :=
  ⟨pts_one h.2.1, fun s F H σ hh sm hc Q q => h.2.2 s F H σ hh sm hc Q fun F' H' g _ => q F' H' (by rw [msAt_nil] at g; exact g)⟩
end
section
variable {K : PySem.W.Frag} {X : Cx} {S R : Type} {Δ Δ1 Δ2 : Ctx K S} {st : Stmt} {e a b c tg iter elt : Expr} {es ifs : List Expr} {pos p' apos : Pos} {τ τe τ1 τ2 L : Ty K} {ω ω1 ω2 : OTy K} {mus ms m1 m2 is vs : List Nat} {c1 c2 c3 cs : List (S → Prop)} {ta tb te : TE} {tt tx : TT} {tl : TA} {i j : Nat} {x y : Str}
/-- what a comprehension without effects is worth -/
def lcV {α β : Type} (xs : List α) (t : α → Bool) (f : α → β) : List β := (xs.filter t).map f
/-- the reading of a comprehension -/
theorem lc_sem {Δb : Ctx K (S × τ.α)} {fx : S → List τ.α} {wi : TI} {g : TG} {ct ce : List (S × τ.α → Prop)} {ft : S × τ.α → Bool} {fe : S × τ.α → τe.α}
    (ri : ∀ s F H σ, Holds Δ s F H σ → Same F H → Conj c1 s → ∀ R : It → Hp → Prop, (∀ J F' H', Gr (MsAt ms σ) F H F' H' → Holds Δ1 s F' H' σ → Walks K J F' τ (fx s) → R J H') → wi σ H R)
    (lg : Δb.length = (Ctx.comap (T := S × τ.α) Prod.fst (killL Δ1 vs)).length) (rg : ∀ (s : S × τ.α) F H σ v, Holds (Ctx.comap (T := S × τ.α) Prod.fst (killL Δ1 vs)) s F H σ → Same F H → τ.rep F v s.2 → ∀ Q : L2.St → Hp → Prop, (∀ σ1, Holds Δb s F H σ1 → (∀ a, Own Δb σ1 a → Own (Ctx.comap (T := S × τ.α) Prod.fst (killL Δ1 vs)) σ a) → (∀ k, k ∉ is → σ1[k]? = σ[k]?) → Q σ1 H) → g v σ H Q)
    (rt : ∀ s F H σ, Holds Δb s F H σ → Same F H → Conj ct s → ∀ Q : Bool → Hp → Prop, (∀ F' H', Gr No F H F' H' → Q (ft s) H') → tt σ H Q)
    (re : ∀ s F H σ, Holds Δb s F H σ → Same F H → Conj ce s → ∀ Q : VK, (∀ v F' H', Gr (MsAt [] σ) F H F' H' → Holds Δb s F' H' σ → τe.rep F' v (fe s) → Q v H') → te σ H Q)
    (his : ∀ j ∈ is, j ∈ vs) :
    ∀ s F H σ, Holds Δ s F H σ → Same F H → Conj (c1 ++ [fun s => ∀ x ∈ fx s, Conj ct (s, x) ∧ (ft (s, x) = true → Conj ce (s, x))]) s → ∀ Q : VK, (∀ p u F' H', Gr (MsAt ms σ) F H F' H' → Holds Δ1 s F' H' σ → H p = none → F' p = none → H' p = some u → (oList τe).own F' u (lcV (fx s) (fun x => ft (s, x)) (fun x => fe (s, x))) → Q (.ref p) H') → tLc wi g tt te vs σ H Q := by
  intro s F H σ hh sm hcs Q q
  obtain ⟨k1, k2, _⟩ := conj_app hcs
  refine ri s F H σ hh sm k1 _ fun J F1 H1 g1 hh1 wk D hD => ?_
  have nD : F1 D = none := g1.fh.free hD
  refine ⟨fun i k H' => ∃ F' acc, k = (fx s).length - i ∧ i ≤ (fx s).length ∧ Gr (fun a => a = D) F1 (upd H1 D (.lst [])) F' H' ∧ F' D = none ∧ H' D = some (.lst acc) ∧ Paired (τe.rep F') acc (lcV ((fx s).take i) (fun x => ft (s, x)) (fun x => fe (s, x))) ∧ Same F1 F',
    ⟨_, F1, [], rfl, Nat.zero_le _, Gr.refl (fun a o z => by rw [upd_ne (ne_of_none z nD)]; exact g1.fh a o z), nD, upd_same, by rw [List.take_zero]; exact .nil, Same.refl F1⟩, ?_⟩
  rintro i k H' ⟨F', acc, rfl, hi, g', n', e', pr, sf⟩
  -- the frame's own objects stand as they stood
  have back : Gr No F1 H1 F' H' := gr_mk (fun a o z => g'.keep a o (by rw [upd_ne (ne_of_none z hD)]; exact z) fun w => by subst w; rw [hD] at z; cases z) g'.ff g'.fh fun a o z => by
    rcases g'.fresh a o z with w | w
    · exact .inl w
    · by_cases y : a = D
      · subst y; exact .inr hD
      · rw [upd_ne y] at w; exact .inr w
  have lt : ∀ n, (lcV ((fx s).take n) (fun x => ft (s, x)) (fun x => fe (s, x))).length ≤ min n (fx s).length := fun n => by
    unfold lcV
    rw [List.length_map]
    refine Nat.le_trans (List.length_filter_le _ _) ?_
    rw [List.length_take]
    exact Nat.le_refl _
  by_cases hlt : i < (fx s).length
  · refine .inr ?_
    have ex : (fx s)[i]? = some (fx s)[i] := List.getElem?_eq_getElem hlt
    obtain ⟨w1, w2⟩ := wk.go i _ F' H' sf g'.fh ex
    have kx := k2 _ (List.getElem_mem hlt)
    refine ⟨w1, fun H2 => ∃ F2 acc2, Gr (fun a => a = D) F1 (upd H1 D (.lst [])) F2 H2 ∧ F2 D = none ∧ H2 D = some (.lst acc2) ∧ Paired (τe.rep F2) acc2 (lcV ((fx s).take (i + 1)) (fun x => ft (s, x)) (fun x => fe (s, x))) ∧ Same F1 F2, fun H2 ⟨F2, acc2, y1, y2, y3, y4, y5⟩ => ⟨_, by omega, F2, acc2, rfl, hlt, y1, y2, y3, y4, y5⟩, fun v H2 hy => ?_⟩
    obtain ⟨F2, g2, rv⟩ := w2 v H2 hy
    have hhk : Holds (Ctx.comap (T := S × τ.α) Prod.fst (killL Δ1 vs)) (s, (fx s)[i]) F2 H2 (wipe σ vs) := comap_holds (kill_holds ((hh1.grow back).grow g2))
    refine rg (s, (fx s)[i]) F2 H2 (wipe σ vs) v hhk g2.fh rv _ fun σ3 hh3 ow3 nx3 => ⟨?_, ?_⟩
    · -- only names of the block were stored
      apply List.ext_getElem?
      intro j
      by_cases hj : j ∈ vs
      · have : ∀ {σ : L2.St} {ws : List Nat}, j ∈ ws → (wipe σ ws)[j]? = if j < σ.length then some none else none := by
          intro σ ws
          induction ws with
          | nil => intro h; cases h
          | cons w ws ih =>
            intro h
            unfold wipe
            by_cases hw : w = j
            · subst hw
              rw [List.getElem?_set, if_pos rfl, wipe_length]
            · rw [List.getElem?_set_ne hw]
              exact ih ((List.mem_cons.mp h).resolve_left fun z => hw z.symm)
        rw [this hj, this hj]
        have l3 : σ3.length = (wipe σ vs).length := by rw [hh3.len, hhk.len]; exact lg
        rw [l3, wipe_length]
      · rw [wipe_out hj, wipe_out hj, nx3 j fun z => hj (his j z), wipe_out hj]
    · refine rt _ F2 H2 σ3 hh3 g2.fh kx.1 _ fun F3 H3 g3 => ?_
      have ek : (fx s).take (i + 1) = (fx s).take i ++ [(fx s)[i]] := by rw [List.take_add_one, ex]; rfl
      have gD : Gr (fun a => a = D) F1 (upd H1 D (.lst [])) F3 H3 := g'.trans ((g2.trans g3).of0)
      have stay : ∀ {Fa Ha Fb Hb : Hp}, Gr No Fa Ha Fb Hb → Fa D = none → Ha D = some (.lst acc) → Fb D = none ∧ Hb D = some (.lst acc) := fun {Fa Ha Fb Hb} g n h => by
        refine ⟨?_, g.same _ _ h⟩
        cases z : Fb D with
        | none => rfl
        | some o =>
          rcases g.fresh D o z with w | w
          · rw [n] at w; cases w
          · rw [h] at w; cases w
      obtain ⟨n3, e3⟩ := stay (g2.trans g3) n' e'
      cases et : ft (s, (fx s)[i]) with
      | false =>
        show ∃ F2 acc2, _
        refine ⟨F3, acc, gD, n3, e3, ?_, sf.trans (g2.trans g3).ff⟩
        rw [ek]
        unfold lcV
        rw [List.filter_append, List.map_append, show List.filter (fun x => ft (s, x)) [(fx s)[i]] = [] by simp [et]]
        simp only [List.map_nil, List.append_nil]
        exact paired_mono (fun a b r => τe.mono (g2.trans g3).ff r) pr
      | true =>
        show te σ3 H3 _
        refine re _ F3 H3 σ3 (hh3.grow g3) g3.fh (kx.2 et) _ fun w F4 H4 g4 hh4 r4 => ?_
        rw [msAt_nil] at g4
        obtain ⟨n4, e4⟩ := stay g4 n3 e3
        have ll : acc.length < sizeLine := by
          rw [pr.length]
          have := lt i
          have := wk.len
          omega
        refine ⟨acc, e4, ll, F4, acc ++ [w], ?_, n4, upd_same, ?_, sf.trans ((g2.trans g3).trans g4).ff⟩
        · have g5 := gD.trans (g4.of0 (B := fun a => a = D))
          refine g5.trans ⟨Same.refl F4, fun a o z => by rw [upd_ne (ne_of_none z n4)]; exact g4.fh a o z, fun a o z => .inl z, fun a o z nz => by rw [upd_ne nz]; exact z, fun a z => ?_⟩
          by_cases y : a = D
          · subst y; rw [upd_same] at z; cases z
          · rw [upd_ne y] at z; exact z
        · rw [ek]
          unfold lcV
          rw [List.filter_append, List.map_append, show List.filter (fun x => ft (s, x)) [(fx s)[i]] = [(fx s)[i]] by simp [et]]
          exact paired_app (paired_mono (fun a b r => τe.mono ((g2.trans g3).trans g4).ff r) pr) (.cons r4 .nil)
  · refine .inl ⟨wk.stop i F' H' sf g'.fh (by omega), ?_⟩
    have ed : (fx s).take i = fx s := List.take_of_length_le (by omega)
    rw [ed] at pr
    refine q D (.lst acc) F' H' (g1.trans back.of0) (hh1.grow back) (g1.dom D hD) n' e' ⟨acc, rfl, pr, ?_⟩
    have := lt (fx s).length
    rw [List.take_length] at this
    have := wk.len
    omega

/-- [elt for tg in iter if ..] without effects -/
theorem DO.lc {scope : Scope} {own : List (Str × Nat)} {Δb : Ctx K (S × τ.α)} {fx : S → List τ.α} {wi : TI} {g : TG} {ct ce : List (S × τ.α → Prop)} {ft : S × τ.α → Bool} {fe : S × τ.α → τe.α} (hN : X.N.Nodup) (hi : DI K X Δ tg iter τ ms c1 Δ1 fx wi) (ok : BlkOk X.N X.env.scope scope own)
    (hg : ∀ (s : Shared) (H : Hp) (C : Addr) (cl : List (Str × Addr)) (fp : List Addr), DG K (X.blk s H scope (compEnvC scope cl C X.env) fp) (Ctx.comap (T := S × τ.α) Prod.fst (killL Δ1 (own.map (·.2)))) tg τ Prod.snd is Δb g)
    (ht : ∀ (s : Shared) (H : Hp) (C : Addr) (cl : List (Str × Addr)) (fp : List Addr), DTs' K (X.blk s H scope (compEnvC scope cl C X.env) fp) Δb ifs ct ft tt)
    (he : ∀ (s : Shared) (H : Hp) (C : Addr) (cl : List (Str × Addr)) (fp : List Addr), DX K (X.blk s H scope (compEnvC scope cl C X.env) fp) Δb elt τe [] ce Δb fe te) (his : ∀ j ∈ is, j ∈ own.map (·.2)) (hc : X.calm = true := by rfl) (hs : ∀ x, foldedSetIterable iter X.env x = pure x := by intro _; rfl) :
    DO K X Δ (.ListComp elt [⟨tg, iter, ifs, 0⟩] scope pos) (oList τe) ms (c1 ++ [fun s => ∀ x ∈ fx s, Conj ct (s, x) ∧ (ft (s, x) = true → Conj ce (s, x))]) Δ1 (fun s => lcV (fx s) (fun x => ft (s, x)) (fun x => fe (s, x))) (tLc wi g tt te (own.map (·.2))) :=
  ⟨hi.1, pe_lc hc hN hi.2.1 ok (fun s H C cl fp => (hg s H C cl fp).2.1) (fun s H C cl fp => (ht s H C cl fp).1) (fun s H C cl fp => (he s H C cl fp).2.1) hs, by
    have s0 : Shared := {}
    exact lc_sem (is := is) hi.2.2 (hg s0 (fun _ => none) 0 [] []).1 (hg s0 (fun _ => none) 0 [] []).2.2 (ht s0 (fun _ => none) 0 [] []).2 (he s0 (fun _ => none) 0 [] []).2.2 his⟩
/-- x = [..]: the statement of its own -/
theorem DS.setG {h : S → ω.τ.α} (he : DO K X Δ e ω ms c1 Δ1 h ta) (hps : PS X st (tAsg ta (gName i))) (hm : OwnAll Δ ms) (hu : i ∉ mus) : DS K X mus Δ st c1 (Δ1.set i (.ow ω h)) := by
  obtain ⟨d1, p, r⟩ := he
  refine ⟨_, hps, fun s F H σ hh sm hc D q => r s F H σ hh sm hc _ fun a u F1 H1 g1 hh1 n1 n2 e1 o1 => ?_⟩
  have gs : GrS mus Δ σ Δ1 σ F H F1 H1 := gs0 hm d1 hh g1
  refine q _ F1 H1 (gs.set hu hh1.len.symm fun ω f p _ e => by cases e; exact n1) (hh1.setO n2 e1 o1 fun z => ?_)
  obtain ⟨j, ω', f', e2, e3⟩ := z
  exact (d1.was hh e2 e3).2 n1
theorem DS.setLc {scope : Scope} {own : List (Str × Nat)} {py spos : Pos} {Δb : Ctx K (S × τ.α)} {fx : S → List τ.α} {wi : TI} {g : TG} {ct ce : List (S × τ.α → Prop)} {ft : S × τ.α → Bool} {fe : S × τ.α → τe.α} (hN : X.N.Nodup) (hy : X.N[i]? = some y) (hyl : X.env.scope.names.lookup y = some .local) (hi : DI K X Δ tg iter τ ms c1 Δ1 fx wi) (ok : BlkOk X.N X.env.scope scope own)
    (hg : ∀ (s : Shared) (H : Hp) (C : Addr) (cl : List (Str × Addr)) (fp : List Addr), DG K (X.blk s H scope (compEnvC scope cl C X.env) fp) (Ctx.comap (T := S × τ.α) Prod.fst (killL Δ1 (own.map (·.2)))) tg τ Prod.snd is Δb g)
    (ht : ∀ (s : Shared) (H : Hp) (C : Addr) (cl : List (Str × Addr)) (fp : List Addr), DTs' K (X.blk s H scope (compEnvC scope cl C X.env) fp) Δb ifs ct ft tt)
    (he : ∀ (s : Shared) (H : Hp) (C : Addr) (cl : List (Str × Addr)) (fp : List Addr), DX K (X.blk s H scope (compEnvC scope cl C X.env) fp) Δb elt τe [] ce Δb fe te) (his : ∀ j ∈ is, j ∈ own.map (·.2)) (hm : OwnAll Δ ms) (hu : i ∉ mus)
    (hsw : swapsWith (.ListComp elt [⟨tg, iter, ifs, 0⟩] scope pos) (some (.Name y py)) spos.line X.env = pure true) (hc : X.calm = true := by rfl) (hs : ∀ x, foldedSetIterable iter X.env x = pure x := by intro _; rfl) :
    DS K X mus Δ (.Assign [.Name y py] (.ListComp elt [⟨tg, iter, ifs, 0⟩] scope pos) spos) (c1 ++ [fun s => ∀ x ∈ fx s, Conj ct (s, x) ∧ (ft (s, x) = true → Conj ce (s, x))]) (Δ1.set i (.ow (oList τe) fun s => lcV (fx s) (fun x => ft (s, x)) (fun x => fe (s, x)))) :=
  DS.setG (DO.lc (pos := pos) hN hi ok hg ht he his hc hs) (ps_setLc hc hN hy hyl hsw hi.2.1 ok (fun s H C cl fp => (hg s H C cl fp).2.1) (fun s H C cl fp => (ht s H C cl fp).1) (fun s H C cl fp => (he s H C cl fp).2.1) hs) hm hu

/-! #### an own list is lent to an expression that makes nothing of it -/
theorem DX.borrow (i : Nat) {f : S → ω.τ.α} {g : S → τ.α} (h : Δ[i]? = some (.ow ω f)) (he : DX K X (Δ.set i (.fz ω.τ f)) e τ [] c1 (Δ.set i (.fz ω.τ f)) g ta) (lf : LF τ) : DX K X Δ e τ [] c1 Δ g ta := by
  obtain ⟨_, p, r⟩ := he
  refine ⟨Diff.refl, p, fun s F H σ hh sm hc Q q => ?_⟩
  obtain ⟨a, u, e1, e2, e3, o⟩ := own_at hh h
  have gf := grs_freeze (mus := []) hh sm h e1 e3 e2
  refine r s _ H σ (hh.freeze h e1 e3 e2) gf.fh hc Q fun v F1 H1 g1 hh1 r1 => ?_
  rw [msAt_nil] at g1
  -- F1 without the lent object
  have no : ∀ xs, u ≠ .tup xs := ω.obj o
  have fu : F1 a = some u := g1.ff _ _ upd_same
  let F2 : Hp := fun b => if b = a then none else F1 b
  have s2 : Same F2 F1 := fun b o z => by
    by_cases w : b = a
    · simp only [F2, if_pos w] at z; cases z
    · simp only [F2, if_neg w] at z; exact z
  have g2 : Gr No F H F2 H1 := gr_mk g1.same (fun b o z => by
      have w : b ≠ a := fun w => by subst w; rw [e2] at z; cases z
      simp only [F2, if_neg w]
      exact g1.ff _ _ (by rw [upd_ne w]; exact z)) (s2.trans g1.fh) fun b o z => by
    by_cases w : b = a
    · simp only [F2, if_pos w] at z; cases z
    · simp only [F2, if_neg w] at z
      rcases g1.fresh b o z with y | y
      · rw [upd_ne w] at y; exact .inl y
      · exact .inr y
  refine q v F2 H1 (by rw [msAt_nil]; exact g2) (hh.grow g2) (lf F1 F2 v _ (fun b xs z => ?_) r1)
  have w : b ≠ a := fun w => by subst w; rw [fu] at z; exact no xs (Option.some.inj z)
  simp only [F2, if_neg w]
  exact z
theorem DT.borrow (i : Nat) {f : S → ω.τ.α} {g : S → Bool} (h : Δ[i]? = some (.ow ω f)) (he : DT K X (Δ.set i (.fz ω.τ f)) e [] c1 (Δ.set i (.fz ω.τ f)) g tx) : DT K X Δ e [] c1 Δ g tx := by
  obtain ⟨_, p, r⟩ := he
  refine ⟨Diff.refl, p, fun s F H σ hh sm hc Q q => ?_⟩
  obtain ⟨a, u, e1, e2, e3, o⟩ := own_at hh h
  have gf := grs_freeze (mus := []) hh sm h e1 e3 e2
  refine r s _ H σ (hh.freeze h e1 e3 e2) gf.fh hc Q fun F1 H1 g1 hh1 => ?_
  rw [msAt_nil] at g1
  let F2 : Hp := fun b => if b = a then none else F1 b
  have s2 : Same F2 F1 := fun b o z => by
    by_cases w : b = a
    · simp only [F2, if_pos w] at z; cases z
    · simp only [F2, if_neg w] at z; exact z
  have g2 : Gr No F H F2 H1 := gr_mk g1.same (fun b o z => by
      have w : b ≠ a := fun w => by subst w; rw [e2] at z; cases z
      simp only [F2, if_neg w]
      exact g1.ff _ _ (by rw [upd_ne w]; exact z)) (s2.trans g1.fh) fun b o z => by
    by_cases w : b = a
    · simp only [F2, if_pos w] at z; cases z
    · simp only [F2, if_neg w] at z
      rcases g1.fresh b o z with y | y
      · rw [upd_ne w] at y; exact .inl y
      · exact .inr y
  exact q F2 H1 (by rw [msAt_nil]; exact g2) (hh.grow g2)
theorem DO.borrow (i : Nat) {f : S → ω.τ.α} {g : S → ω1.τ.α} (h : Δ[i]? = some (.ow ω f)) (he : DO K X (Δ.set i (.fz ω.τ f)) e ω1 [] c1 (Δ.set i (.fz ω.τ f)) g ta) (lf : LFo ω1) : DO K X Δ e ω1 [] c1 Δ g ta := by
  obtain ⟨_, p, r⟩ := he
  refine ⟨Diff.refl, p, fun s F H σ hh sm hc Q q => ?_⟩
  obtain ⟨a, u, e1, e2, e3, o⟩ := own_at hh h
  have gf := grs_freeze (mus := []) hh sm h e1 e3 e2
  refine r s _ H σ (hh.freeze h e1 e3 e2) gf.fh hc Q fun p1 u1 F1 H1 g1 hh1 n1 n2 n3 o1 => ?_
  rw [msAt_nil] at g1
  have no : ∀ xs, u ≠ .tup xs := ω.obj o
  have fu : F1 a = some u := g1.ff _ _ upd_same
  let F2 : Hp := fun b => if b = a then none else F1 b
  have s2 : Same F2 F1 := fun b o z => by
    by_cases w : b = a
    · simp only [F2, if_pos w] at z; cases z
    · simp only [F2, if_neg w] at z; exact z
  have g2 : Gr No F H F2 H1 := gr_mk g1.same (fun b o z => by
      have w : b ≠ a := fun w => by subst w; rw [e2] at z; cases z
      simp only [F2, if_neg w]
      exact g1.ff _ _ (by rw [upd_ne w]; exact z)) (s2.trans g1.fh) fun b o z => by
    by_cases w : b = a
    · simp only [F2, if_pos w] at z; cases z
    · simp only [F2, if_neg w] at z
      rcases g1.fresh b o z with y | y
      · rw [upd_ne w] at y; exact .inl y
      · exact .inr y
  have np : F2 p1 = none := by
    cases z : F2 p1 with
    | none => rfl
    | some o => rw [s2 _ _ z] at n2; cases n2
  refine q p1 u1 F2 H1 (by rw [msAt_nil]; exact g2) (hh.grow g2) n1 np n3 (lf F1 F2 _ _ (fun b xs z => ?_) o1)
  have w : b ≠ a := fun w => by subst w; rw [fu] at z; exact no xs (Option.some.inj z)
  simp only [F2, if_neg w]
  exact z


/-- all the slots ms hold what reads no list -/
def LfAll (Δ : Ctx K S) : List Nat → Prop
  | [] => True
  | i :: is => (∃ (ω : OTy K) (f : S → ω.τ.α), Δ[i]? = some (.ow ω f) ∧ LFo ω) ∧ LfAll Δ is
theorem LfAll.all : ∀ {ms : List Nat}, LfAll Δ ms → ∀ i ∈ ms, ∃ (ω : OTy K) (f : S → ω.τ.α), Δ[i]? = some (.ow ω f) ∧ LFo ω
  | [], _, _, h => nomatch h
  | j :: ms, h, i, m => by
    rcases List.mem_cons.mp m with e | e
    · subst e; exact h.1
    · exact LfAll.all h.2 i e
/-- the heap's told part without the lent object; the slots behind -/
theorem unlend {s : S} {F H F1 H1 : Hp} {σ : L2.St} {a : Addr} {u : HO} {f : S → ω.τ.α} (hh : Holds Δ s F H σ) (h : Δ[i]? = some (.ow ω f)) (e1 : σ[i]? = some (some (.ref a))) (e2 : F a = none) (e3 : H a = some u) (o : ω.own F u (f s)) (him : i ∉ ms) (hm : OwnAll Δ ms) (d : Diff ms (Δ.set i (.fz ω.τ f)) Δ1) (lf : LfAll Δ1 ms)
    (g1 : Gr (MsAt ms σ) (upd F a u) H F1 H1) (hh1 : Holds Δ1 s F1 H1 σ) : Gr (MsAt ms σ) F H (fun b => if b = a then none else F1 b) H1 ∧ Holds (Δ1.set i (.ow ω f)) s (fun b => if b = a then none else F1 b) H1 σ ∧ Same (fun b => if b = a then none else F1 b) F1 ∧ ∀ b xs, F1 b = some (.tup xs) → (fun b => if b = a then none else F1 b) b = some (.tup xs) := by
  have fu : F1 a = some u := g1.ff _ _ upd_same
  have hu : H1 a = some u := g1.fh _ _ fu
  have no : ∀ xs, u ≠ .tup xs := ω.obj o
  have s2 : Same (fun b => if b = a then none else F1 b) F1 := fun b o z => by
    by_cases w : b = a
    · simp only [if_pos w] at z; cases z
    · simp only [if_neg w] at z; exact z
  have tt : ∀ b xs, F1 b = some (.tup xs) → (fun b => if b = a then none else F1 b) b = some (.tup xs) := fun b xs z => by
    have w : b ≠ a := fun w => by subst w; rw [fu] at z; exact no xs (Option.some.inj z)
    simp only [if_neg w]
    exact z
  have ff : Same F (fun b => if b = a then none else F1 b) := fun b o z => by
    have w : b ≠ a := fun w => by subst w; rw [e2] at z; cases z
    simp only [if_neg w]
    exact g1.ff _ _ (by rw [upd_ne w]; exact z)
  refine ⟨⟨ff, s2.trans g1.fh, fun b o z => ?_, g1.keep, g1.dom⟩, ⟨by rw [List.length_set]; exact hh1.len, fun j sl o' k1 k2 => ?_, fun j l ω1 ω2 f1 f2 q n k1 k2 k3 => ?_⟩, s2, tt⟩
  · by_cases w : b = a
    · simp only [if_pos w] at z; cases z
    · simp only [if_neg w] at z
      rcases g1.fresh b o z with y | y
      · rw [upd_ne w] at y; exact .inl y
      · exact .inr y
  · rcases get_set1 k1 with ⟨rfl, rfl, _⟩ | ⟨n, k1⟩
    · rw [e1] at k2; cases k2
      exact ⟨a, u, rfl, by simp, hu, ω.mono ff o⟩
    · by_cases hj : j ∈ ms
      · obtain ⟨ω', f', k3, lo⟩ := lf.all j hj
        rw [k1] at k3; cases k3
        obtain ⟨p, u', r1, r2, r3, r4⟩ := hh1.at_ j _ o' k1 k2
        refine ⟨p, u', r1, ?_, r3, lo F1 _ u' _ tt r4⟩
        cases y : (fun b => if b = a then none else F1 b) p with
        | none => rfl
        | some o => rw [s2 _ _ y] at r2; cases r2
      · have k4 : Δ[j]? = some sl := by
          have := d.out j hj
          rw [List.getElem?_set_ne n] at this
          rw [← this]; exact k1
        have r := hh.at_ j sl o' k4 k2
        cases sl with
        | dead => trivial
        | fz τ g => obtain ⟨v, r1, r2⟩ := r; exact ⟨v, r1, τ.mono ff r2⟩
        | ow ω2 g =>
          obtain ⟨p, u', r1, r2, r3, r4⟩ := r
          obtain ⟨p', u'', t1, t2, t3, t4⟩ := hh1.at_ j _ o' k1 k2
          rw [r1] at t1; cases t1
          have nb : ¬ MsAt ms σ p := fun ⟨l, hl, e⟩ => by
            obtain ⟨ω', f', k5⟩ := hm.all l hl
            exact hh.sep j l ω2 ω' g f' p (fun z => hj (z ▸ hl)) k4 k5 (by rw [k2, r1]) e
          refine ⟨p, u', r1, ?_, g1.keep _ _ r3 nb, ω2.mono ff r4⟩
          cases y : (fun b => if b = a then none else F1 b) p with
          | none => rfl
          | some o => rw [s2 _ _ y] at t2; cases t2
  · have up : ∀ {j : Nat} {ω1 : OTy K} {f1 : S → ω1.τ.α}, (Δ1.set i (.ow ω f))[j]? = some (.ow ω1 f1) → ∃ (ω' : OTy K) (f' : S → ω'.τ.α), Δ[j]? = some (.ow ω' f') := fun {j ω1 f1} k => by
      rcases get_set1 k with ⟨rfl, _, _⟩ | ⟨n, k⟩
      · exact ⟨_, _, h⟩
      · obtain ⟨ω', f', k'⟩ := d.own j _ _ k
        rcases get_set1 k' with ⟨z, _, _⟩ | ⟨_, k'⟩
        · exact absurd z n
        · exact ⟨_, _, k'⟩
    obtain ⟨_, _, w1⟩ := up k1
    obtain ⟨_, _, w2⟩ := up k2
    exact hh.sep j l _ _ _ _ q n w1 w2 k3
theorem diff_lend {f : S → ω.τ.α} (h : Δ[i]? = some (.ow ω f)) (him : i ∉ ms) (d : Diff ms (Δ.set i (.fz ω.τ f)) Δ1) : Diff ms Δ (Δ1.set i (.ow ω f)) := by
  refine ⟨by rw [List.length_set, d.len, List.length_set], fun k hk => ?_, fun k ω1 f1 e => ?_⟩
  · by_cases z : i = k
    · subst z
      rw [List.getElem?_set_self (by rw [d.len, List.length_set]; exact (List.getElem?_eq_some_iff.mp h).1), h]
    · rw [List.getElem?_set_ne z, d.out k hk, List.getElem?_set_ne z]
  · rcases get_set1 e with ⟨rfl, _, _⟩ | ⟨n, e⟩
    · exact ⟨_, _, h⟩
    · obtain ⟨ω', f', k'⟩ := d.own k _ _ e
      rcases get_set1 k' with ⟨z, _, _⟩ | ⟨_, k'⟩
      · exact absurd z n
      · exact ⟨_, _, k'⟩
theorem DX.borrowE (i : Nat) {f : S → ω.τ.α} {g : S → τ.α} (h : Δ[i]? = some (.ow ω f)) (he : DX K X (Δ.set i (.fz ω.τ f)) e τ ms c1 Δ1 g ta) (lf : LF τ) (him : i ∉ ms) (hm : OwnAll Δ ms) (lm : LfAll Δ1 ms) : DX K X Δ e τ ms c1 (Δ1.set i (.ow ω f)) g ta := by
  obtain ⟨d, p, r⟩ := he
  refine ⟨diff_lend h him d, p, fun s F H σ hh sm hc Q q => ?_⟩
  obtain ⟨a, u, e1, e2, e3, o⟩ := own_at hh h
  refine r s _ H σ (hh.freeze h e1 e3 e2) (grs_freeze (mus := []) hh sm h e1 e3 e2).fh hc Q fun v F1 H1 g1 hh1 r1 => ?_
  obtain ⟨k1, k2, k3, k4⟩ := unlend hh h e1 e2 e3 o him hm d lm g1 hh1
  exact q v _ H1 k1 k2 (lf F1 _ v _ k4 r1)
theorem DO.borrowE (i : Nat) {f : S → ω.τ.α} {g : S → ω1.τ.α} (h : Δ[i]? = some (.ow ω f)) (he : DO K X (Δ.set i (.fz ω.τ f)) e ω1 ms c1 Δ1 g ta) (lf : LFo ω1) (him : i ∉ ms) (hm : OwnAll Δ ms) (lm : LfAll Δ1 ms) : DO K X Δ e ω1 ms c1 (Δ1.set i (.ow ω f)) g ta := by
  obtain ⟨d, p, r⟩ := he
  refine ⟨diff_lend h him d, p, fun s F H σ hh sm hc Q q => ?_⟩
  obtain ⟨a, u, e1, e2, e3, o⟩ := own_at hh h
  refine r s _ H σ (hh.freeze h e1 e3 e2) (grs_freeze (mus := []) hh sm h e1 e3 e2).fh hc Q fun p1 u1 F1 H1 g1 hh1 n1 n2 n3 o1 => ?_
  obtain ⟨k1, k2, k3, k4⟩ := unlend hh h e1 e2 e3 o him hm d lm g1 hh1
  refine q p1 u1 _ H1 k1 k2 n1 ?_ n3 (lf F1 _ _ _ k4 o1)
  show (if p1 = a then none else F1 p1) = none
  rw [n2]
  exact ite_self _
theorem DT.borrowE (i : Nat) {f : S → ω.τ.α} {g : S → Bool} (h : Δ[i]? = some (.ow ω f)) (he : DT K X (Δ.set i (.fz ω.τ f)) e ms c1 Δ1 g tx) (him : i ∉ ms) (hm : OwnAll Δ ms) (lm : LfAll Δ1 ms) : DT K X Δ e ms c1 (Δ1.set i (.ow ω f)) g tx := by
  obtain ⟨d, p, r⟩ := he
  refine ⟨diff_lend h him d, p, fun s F H σ hh sm hc Q q => ?_⟩
  obtain ⟨a, u, e1, e2, e3, o⟩ := own_at hh h
  refine r s _ H σ (hh.freeze h e1 e3 e2) (grs_freeze (mus := []) hh sm h e1 e3 e2).fh hc Q fun F1 H1 g1 hh1 => ?_
  obtain ⟨k1, k2, k3, k4⟩ := unlend hh h e1 e2 e3 o him hm d lm g1 hh1
  exact q _ H1 k1 k2

/-! #### built-ins -/
theorem DX.call1 {id : String} {r : List V → Hp → VK → Prop} {px : Pos} {f : S → τ.α} {cc : List (τ.α → Prop)} {g : τ.α → τ1.α} (hcr : CallR X (.builtin id) r) (hr : ∀ v x F H, Same F H → τ.rep F v x → ConjC (cc.map fun c y (_ : Unit) => c y) x () → ∀ Q : VK, (∀ z F' H', Gr No F H F' H' → τ1.rep F' z (g x) → Q z H') → r [v] H Q) (hm : X.mg x = none) (hv : bootBuiltins x = some (.builtin id)) (he : DX K X Δ e τ ms c1 Δ1 f ta)
    (hg : Gl X x := by rfl) (hn : x ≠ "__name__" := by decide) (hdb : (x == ("__debug__" : Str)) = false := by decide) (hs : starEach [e] X.env = (false, eval e X.env) :: starEach [] X.env := by rfl) (hpl : (backTo pos (starEach [] X.env)).any (·.1) = false := by rfl) :
    DX K X Δ (.Call (.Name x px) [e] [] pos) τ1 ms (c1 ++ cc.map fun c s => c (f s)) Δ1 (fun s => g (f s)) (tCB r (tCons ta tNil)) := by
  obtain ⟨d1, p, q1⟩ := he
  refine ⟨d1, pe_callB hcr hg hm hv (pa_cons p pa_nil hs) hn hdb hs hpl, fun s F H σ hh sm hc Q q => ?_⟩
  obtain ⟨k1, k2⟩ := conj_app hc
  refine q1 s F H σ hh sm k1 _ fun v F1 H1 g1 hh1 r1 => hr v (f s) F1 H1 g1.fh r1 ?_ Q fun z F2 H2 g2 r2 => q z F2 H2 (g1.trans g2.of0) (hh1.grow g2) r2
  have : ∀ {cc : List (τ.α → Prop)}, Conj (cc.map fun c s => c (f s)) s → ConjC (cc.map fun c y (_ : Unit) => c y) (f s) () := by
    intro cc
    induction cc with
    | nil => intro _; trivial
    | cons c cc ih => intro h; exact ⟨h.1, ih h.2⟩
  exact this k2
/-- len of a list; of a text -/
theorem DX.len {to : L.α → List τ.α} {px : Pos} {f : S → L.α} (hl : LL L τ to) (hm : X.mg "len" = none) (he : DX K X Δ e L ms c1 Δ1 f ta) (hK : X.K = K := by rfl) (hg : Gl X "len" := by rfl) (hs : starEach [e] X.env = (false, eval e X.env) :: starEach [] X.env := by rfl) (hpl : (backTo pos (starEach [] X.env)).any (·.1) = false := by rfl) :
    DX K X Δ (.Call (.Name "len" px) [e] [] pos) (tInt K) ms (c1 ++ []) Δ1 (fun s => ((to (f s)).length : Int)) (tCB (fun xs H Q => ∃ p ys, xs = [.ref p] ∧ (SqL K H p ys ∨ SqT K H p ys) ∧ Q (.int ys.length) H) (tCons ta tNil)) := by
  subst hK
  exact DX.call1 (τ1 := tInt X.K) (cc := []) (g := fun x => ((to x).length : Int)) call_len_seq (fun v x F H sm r _ Q q => by
    obtain ⟨a, vs, ev, sq, pr, _⟩ := hl r
    exact ⟨a, vs, by rw [ev], .inl (sm.seq sq), q _ F H (Gr.refl sm) (by rw [pr.length])⟩) hm PySem.boot_len he hg (by decide) (by decide) hs hpl
/-- repr -/
def rRepr (K : PySem.W.Frag) : List V → Hp → VK → Prop := fun xs H Q => ∃ x d, xs = [x] ∧ Dp K H x d ∧ d.showable = true ∧ d.hasDict = false ∧ d.depth ≤ 64 ∧ d.shown.length ≤ sizeLine ∧ Q (.str d.shown) H
theorem call_repr_d {k : Nat} (hr : RoomG k X.A) : CallR X (.builtin "repr") (rRepr X.K) := by
  intro pins s σ H xs us Q I r h
  obtain ⟨x, d, rfl, hd, h1, h2, h3, h4, q⟩ := h
  obtain ⟨u, rfl, ru⟩ := vals1 r
  cases hd with
  | non =>
    obtain rfl : u = Value.none := ru
    exact PySem.P.repr_of_none ⟨.str _, H, I.tok _, ⟨_, rfl⟩, q⟩
  | bl b =>
    obtain rfl : u = Value.bool b := ru
    exact PySem.P.repr_of_bool ⟨.str _, H, I.tok _, ⟨_, rfl⟩, q⟩
  | int i =>
    obtain ⟨t, rfl⟩ := ru
    exact PySem.P.repr_of_int (of_decide_eq_true h1) ⟨.str _, H, I.tok _, ⟨_, rfl⟩, q⟩
  | str z =>
    obtain ⟨t, rfl⟩ := ru
    exact PySem.P.repr_of_str ⟨.str _, H, I.tok _, ⟨_, rfl⟩, q⟩ h4
  | @lst a xs ds sq al =>
    obtain ⟨as, rd⟩ := Dp.reads I (.list ds) (.ref a) u (.lst sq al) ru
    obtain rfl : u = Value.ref a := ru
    have hu := hr.rm.un
    exact repr_of_reads' rd h1 (fun e => by rw [h2] at e; cases e) hr.gd (by omega) (fun _ _ e => e) (fun h' w tk hk => ⟨.str _, H, I.kept hk, ⟨_, rfl⟩, q⟩) h4
  | @tup a xs ds sq al =>
    obtain ⟨as, rd⟩ := Dp.reads I (.tuple ds) (.ref a) u (.tup sq al) ru
    obtain rfl : u = Value.ref a := ru
    have hu := hr.rm.un
    exact repr_of_reads' rd h1 (fun e => by rw [h2] at e; cases e) hr.gd (by omega) (fun _ _ e => e) (fun h' w tk hk => ⟨.str _, H, I.kept hk, ⟨_, rfl⟩, q⟩) h4
theorem DX.repr {k : Nat} {d : DF τ.α} {px : Pos} {f : S → τ.α} (hr : RoomG k X.A) (hd : Dat τ d) (hm : X.mg "repr" = none) (he : DX K X Δ e τ ms c1 Δ1 f ta) (hn : d.n ≤ 64 := by decide) (hK : X.K = K := by rfl) (hg : Gl X "repr" := by rfl) (hs : starEach [e] X.env = (false, eval e X.env) :: starEach [] X.env := by rfl) (hpl : (backTo pos (starEach [] X.env)).any (·.1) = false := by rfl) :
    DX K X Δ (.Call (.Name "repr" px) [e] [] pos) (tTxt K) ms (c1 ++ [fun s => ShowOk d (f s)]) Δ1 (fun s => reprOf d (f s)) (tCB (rRepr K) (tCons ta tNil)) := by
  subst hK
  exact DX.call1 (τ1 := tTxt X.K) (cc := [ShowOk d]) (g := fun x => reprOf d x) (call_repr_d hr) (fun v x F H sm r hc Q q => ⟨v, d.toD x, rfl, hd.dp (τ.mono sm r), hc.1.1, hd.pl.nodict x, Nat.le_trans (hd.pl.dep x) hn, hc.1.2, q _ F H (Gr.refl sm) rfl⟩) hm (by decide +kernel) he hg (by decide) (by decide) hs hpl
/-- texts compared (repr) -/
theorem DX.eqT {f g : S → Str} (ha : DX K X Δ a (tTxt K) m1 c1 Δ1 f ta) (hb : DX K X Δ1 b (tTxt K) m2 c2 Δ2 g tb) : DX K X Δ (.Compare a [.Eq] [b] pos) (tBool K) (m1 ++ m2) (c1 ++ (c2 ++ [])) Δ2 (fun s => decide (f s = g s)) (tOp rEq ta tb) :=
  DX.bin (τ := tBool K) (cc := []) (g := fun (x y : Str) => decide (x = y)) (fun x y v u F H sm r1 r2 _ Q q => by
    subst r1 r2
    exact ⟨rfl, q _ F H (Gr.refl sm) (by simp)⟩) ha hb fun p q => pe_cmpR op_eq p q (nomark _)
theorem DX.neT {f g : S → Str} (ha : DX K X Δ a (tTxt K) m1 c1 Δ1 f ta) (hb : DX K X Δ1 b (tTxt K) m2 c2 Δ2 g tb) : DX K X Δ (.Compare a [.NotEq] [b] pos) (tBool K) (m1 ++ m2) (c1 ++ (c2 ++ [])) Δ2 (fun s => !decide (f s = g s)) (tOp rNe ta tb) :=
  DX.bin (τ := tBool K) (cc := []) (g := fun (x y : Str) => !decide (x = y)) (fun x y v u F H sm r1 r2 _ Q q => by
    subst r1 r2
    exact ⟨rfl, q _ F H (Gr.refl sm) (by simp)⟩) ha hb fun p q => pe_cmpR op_ne p q (nomark _)
theorem DT.eqT {f g : S → Str} (ha : DX K X Δ a (tTxt K) m1 c1 Δ1 f ta) (hb : DX K X Δ1 b (tTxt K) m2 c2 Δ2 g tb) : DT K X Δ (.Compare a [.Eq] [b] pos) (m1 ++ m2) (c1 ++ (c2 ++ [])) Δ2 (fun s => decide (f s = g s)) (tTest (tOp rEq ta tb)) :=
  DT.bin (cc := []) (g := fun (x y : Str) => decide (x = y)) (fun x y v u F H sm r1 r2 _ Q q => by
    subst r1 r2
    exact ⟨rfl, q _ F H (Gr.refl sm) (by simp)⟩) ha hb fun p q => pt_cmpR op_eq p q (nomark _)
theorem DT.neT {f g : S → Str} (ha : DX K X Δ a (tTxt K) m1 c1 Δ1 f ta) (hb : DX K X Δ1 b (tTxt K) m2 c2 Δ2 g tb) : DT K X Δ (.Compare a [.NotEq] [b] pos) (m1 ++ m2) (c1 ++ (c2 ++ [])) Δ2 (fun s => !decide (f s = g s)) (tTest (tOp rNe ta tb)) :=
  DT.bin (cc := []) (g := fun (x y : Str) => !decide (x = y)) (fun x y v u F H sm r1 r2 _ Q q => by
    subst r1 r2
    exact ⟨rfl, q _ F H (Gr.refl sm) (by simp)⟩) ha hb fun p q => pt_cmpR op_ne p q (nomark _)
/-- max, min of two ints -/
theorem DX.max2 {f g : S → Int} {px : Pos} (hm : X.mg "max" = none) (ha : DX K X Δ a (tInt K) m1 c1 Δ1 f ta) (hb : DX K X Δ1 b (tInt K) m2 c2 Δ2 g tb) (hc : X.calm = true := by rfl) (hg : Gl X "max" := by rfl) (hs : starEach [a, b] X.env = (false, eval a X.env) :: starEach [b] X.env := by rfl) (hs2 : starEach [b] X.env = (false, eval b X.env) :: starEach [] X.env := by rfl) (hpl : (backTo pos (starEach [b] X.env)).any (·.1) = false := by rfl) :
    DX K X Δ (.Call (.Name "max" px) [a, b] [] pos) (tInt K) (m1 ++ m2) (c1 ++ c2) Δ2 (fun s => max (f s) (g s)) (tCB (fun xs H Q => ∃ i j, xs = [.int i, .int j] ∧ Q (.int (if j > i then j else i)) H) (tCons ta (tCons tb tNil))) := by
  obtain ⟨d1, p, r⟩ := ha
  obtain ⟨d2, p2, r2⟩ := hb
  refine ⟨d1.trans d2, pe_callB (call_max2 hc) hg hm (by decide +kernel) (pa_cons p (pa_cons p2 pa_nil hs2) hs) (by decide) (by decide) hs hpl, fun s F H σ hh sm hc Q q => ?_⟩
  obtain ⟨k1, k2⟩ := conj_app hc
  refine r s F H σ hh sm k1 _ fun v F1 H1 g1 hh1 r1 => r2 s F1 H1 σ hh1 g1.fh k2 _ fun w F2 H2 g2 hh2 r3 => ⟨f s, g s, by rw [show v = .int (f s) from r1, show w = .int (g s) from r3], ?_⟩
  refine q _ F2 H2 ((g1.mono (msAt_l (m2 := m2))).trans (g2.mono (msAt_r (m1 := m1)))) hh2 (congrArg V.int (show (if g s > f s then g s else f s) = max (f s) (g s) by omega))
theorem DX.min2 {f g : S → Int} {px : Pos} (hm : X.mg "min" = none) (ha : DX K X Δ a (tInt K) m1 c1 Δ1 f ta) (hb : DX K X Δ1 b (tInt K) m2 c2 Δ2 g tb) (hc : X.calm = true := by rfl) (hg : Gl X "min" := by rfl) (hs : starEach [a, b] X.env = (false, eval a X.env) :: starEach [b] X.env := by rfl) (hs2 : starEach [b] X.env = (false, eval b X.env) :: starEach [] X.env := by rfl) (hpl : (backTo pos (starEach [b] X.env)).any (·.1) = false := by rfl) :
    DX K X Δ (.Call (.Name "min" px) [a, b] [] pos) (tInt K) (m1 ++ m2) (c1 ++ c2) Δ2 (fun s => min (f s) (g s)) (tCB (fun xs H Q => ∃ i j, xs = [.int i, .int j] ∧ Q (.int (if j < i then j else i)) H) (tCons ta (tCons tb tNil))) := by
  obtain ⟨d1, p, r⟩ := ha
  obtain ⟨d2, p2, r2⟩ := hb
  refine ⟨d1.trans d2, pe_callB (call_min2 hc) hg hm (by decide +kernel) (pa_cons p (pa_cons p2 pa_nil hs2) hs) (by decide) (by decide) hs hpl, fun s F H σ hh sm hc Q q => ?_⟩
  obtain ⟨k1, k2⟩ := conj_app hc
  refine r s F H σ hh sm k1 _ fun v F1 H1 g1 hh1 r1 => r2 s F1 H1 σ hh1 g1.fh k2 _ fun w F2 H2 g2 hh2 r3 => ⟨f s, g s, by rw [show v = .int (f s) from r1, show w = .int (g s) from r3], ?_⟩
  refine q _ F2 H2 ((g1.mono (msAt_l (m2 := m2))).trans (g2.mono (msAt_r (m1 := m1)))) hh2 (congrArg V.int (show (if g s < f s then g s else f s) = min (f s) (g s) by omega))
/-- int(bool) -/
def b2I (b : Bool) : Int := if b then 1 else 0
theorem DX.intB {f : S → Bool} {px : Pos} (hm : X.mg "int" = none) (he : DX K X Δ e (tBool K) ms c1 Δ1 f ta) (hg : Gl X "int" := by rfl) (hs : starEach [e] X.env = (false, eval e X.env) :: starEach [] X.env := by rfl) (hpl : (backTo pos (starEach [] X.env)).any (·.1) = false := by rfl) :
    DX K X Δ (.Call (.Name "int" px) [e] [] pos) (tInt K) ms c1 Δ1 (fun s => b2I (f s)) (tCB (fun xs H Q => (∃ i, xs = [.int i] ∧ Q (.int i) H) ∨ ∃ k, xs = [.bl k] ∧ Q (.int (if k then 1 else 0)) H) (tCons ta tNil)) := by
  obtain ⟨d1, p, r⟩ := he
  refine ⟨d1, pe_callTy call_int1 hg hm (by decide +kernel) (pa_cons p pa_nil hs) (by decide) (by decide) hs hpl, fun s F H σ hh sm hc Q q => ?_⟩
  exact r s F H σ hh sm hc _ fun v F1 H1 g1 hh1 r1 => .inr ⟨f s, by rw [show v = .bl (f s) from r1], q _ F1 H1 g1 hh1 rfl⟩
end
end Dx

/-! Dx, part I: calls that hand back an own object, lists put together, two stores at once, the law's end. -/
namespace Dx
open PySem PySem.Spec PyProof.Rows L2
section
variable {K : PySem.W.Frag} {X : Cx} {S R R' : Type} {Δ Δ1 Δ2 Δ3 : Ctx K S} {st : Stmt} {e a b c tg iter elt : Expr} {es ifs : List Expr} {pos p' apos : Pos} {τ τe τ1 τ2 L L2' : Ty K} {ω ω1 ω2 : OTy K} {mus ms m1 m2 is vs : List Nat} {c1 c2 c3 cs : List (S → Prop)} {ta tb te : TE} {tt tx : TT} {tl : TA} {i j : Nat} {x y : Str} {fm : Fm K R'}
/-- a call's worth, whatever it hands back -/
def DC (K : PySem.W.Frag) (X : Cx) (Δ : Ctx K S) (e : Expr) {R' : Type} (fm : Fm K R') (ms : List Nat) (cs : List (S → Prop)) (Δ1 : Ctx K S) (z : S → R') (t : TE) : Prop :=
  Diff ms Δ Δ1 ∧ PE X e t ∧ ∀ s F H σ, Holds Δ s F H σ → Same F H → Conj cs s → ∀ Q : VK, (∀ v F' H', Gr (MsAt ms σ) F H F' H' → Holds Δ1 s F' H' σ → RetOk (fun q => H q = none) F' H' fm.ret v (fm.res (z s)) → Q v H') → t σ H Q
theorem DX.ofC {z : S → R'} {fr : S → τ.α} (h : DC K X Δ e fm ms cs Δ1 z ta) (hret : fm.ret = .fz τ) (hf : ∀ s, HEq (fm.res (z s)) (fr s)) : DX K X Δ e τ ms cs Δ1 fr ta :=
  ⟨h.1, h.2.1, fun s F H σ hh sm hc Q q => h.2.2 s F H σ hh sm hc Q fun v F1 H1 g hh1 ro => q v F1 H1 g hh1 (by
    have := hf s
    revert this ro
    generalize fm.res (z s) = w
    revert w
    rw [hret]
    intro w ro hz
    rw [← eq_of_heq hz]
    exact ro)⟩
theorem DO.ofC {z : S → R'} {fr : S → ω.τ.α} (h : DC K X Δ e fm ms cs Δ1 z ta) (hret : fm.ret = .ow ω) (hf : ∀ s, HEq (fm.res (z s)) (fr s)) : DO K X Δ e ω ms cs Δ1 fr ta :=
  ⟨h.1, h.2.1, fun s F H σ hh sm hc Q q => h.2.2 s F H σ hh sm hc Q fun v F1 H1 g hh1 ro => by
    have := hf s
    revert this ro
    generalize fm.res (z s) = w
    revert w
    rw [hret]
    intro w ro hz
    rw [eq_of_heq hz] at ro
    obtain ⟨p, u, rfl, n1, n2, e1, o1⟩ := ro
    exact q p u F1 H1 g hh1 n1 n2 e1 o1⟩
theorem up_diff {ps : List (PK K)} {r : S → HM ps} {as : List (AK K S)} (u : Up Δ as ps r Δ2) : OwnAll Δ (lent as) → Diff (lent as) Δ Δ2 := by
  induction u with
  | nil => intro _; exact Diff.refl
  | fz _ ih => exact ih
  | @mu Δ Δ1 j ω as ps r t ih =>
    rintro ⟨⟨ω0, f0, h0⟩, ow⟩
    have back : ∀ {i : Nat} {ω1 : OTy K} {f1 : S → ω1.τ.α}, Δ[i]? = some (.ow ω1 f1) → ∃ (ω' : OTy K) (f' : S → ω'.τ.α), (Δ.set j (.ow ω fun s => (r s).1))[i]? = some (.ow ω' f') := fun {i ω1 f1} e => by
      by_cases z : j = i
      · subst z
        exact ⟨_, _, List.getElem?_set_self (List.getElem?_eq_some_iff.mp e).1⟩
      · exact ⟨_, _, by rw [List.getElem?_set_ne z]; exact e⟩
    have ow' : ∀ {l : List Nat}, OwnAll Δ l → OwnAll (Δ.set j (.ow ω fun s => (r s).1)) l := by
      intro l
      induction l with
      | nil => intro _; trivial
      | cons a l ih2 =>
        rintro ⟨⟨_, _, w⟩, w2⟩
        exact ⟨back w, ih2 w2⟩
    have d0 : Diff [j] Δ (Δ.set j (.ow ω fun s => (r s).1)) := ⟨List.length_set .., fun i n => List.getElem?_set_ne fun z => n (by rw [z]; exact List.mem_singleton.mpr rfl), fun i ω1 f1 e => by
      rcases get_set1 e with ⟨rfl, _, _⟩ | ⟨_, e⟩
      · exact ⟨_, _, h0⟩
      · exact ⟨_, _, e⟩⟩
    exact d0.trans (ih (ow' ow))
theorem DC.call {k : Nat} {f : Addr} {fd : FuncData} {ps : List Str} {p : HP fm.ps → Prop} {fv : HP fm.ps → R'} {as : List (AK K S)} {g : S → HP fm.ps} {px : Pos} {t : TA} (G : FnG X.prog X.w K X.mg X.base CX0 k f fd ps (SpOf fm p fv)) (hr : RoomG k X.A) (hm : X.mg x = some (.ref f)) (hk : PySem.W.keepIn K (.ref f) = true) (hb : Binds K fd ps [])
    (ha : DA K X Δ (e :: es) m1 c1 Δ1 as t) (har : Ar Δ1 as fm.ps g) (hup : Up Δ1 as fm.ps (fun s => fm.mv (fv (g s))) Δ2) (hnd : (lent as).Nodup) (how : OwnAll Δ1 (lent as)) (hK : X.K = K := by rfl) (hg : Gl X x := by rfl) (hdb : (x == ("__debug__" : Str)) = false := by decide) (he : starEach (e :: es) X.env = (false, eval e X.env) :: starEach es X.env := by rfl) (hpl : (backTo pos (starEach es X.env)).any (·.1) = false := by rfl) :
    DC K X Δ (.Call (.Name x px) (e :: es) [] pos) fm (m1 ++ lent as) (c1 ++ [fun s => p (g s)]) Δ2 (fun s => fv (g s)) (tCall (SpOf fm p fv) [] E0 t) := by
  subst hK
  obtain ⟨d1, pa, ra⟩ := ha
  refine ⟨d1.trans (up_diff hup how), pe_callg G hr hg hm hk hb pass0 pa hdb he hpl, fun s F H σ hh sm hc Q q => ?_⟩
  obtain ⟨k1, k2, _⟩ := conj_app hc
  refine ra s F H σ hh sm k1 _ fun vs F1 H1 g1 hh1 r1 => ?_
  show SpOf fm p fv (vs ++ []) H1 Q E0
  rw [List.append_nil]
  obtain ⟨w1, w2⟩ := har.holds hh1 g1.fh r1 hnd
  refine ⟨F1, g s, w1, g1.fh, k2, fun v F2 H2 g2 ro mo => ?_⟩
  have g2' : Gr (MsAt (lent as) σ) F1 H1 F2 H2 := g2.mono fun a ⟨j, hj, e⟩ => har.muts 0 (us := []) rfl r1 j hj a e
  refine q v F2 H2 ((g1.mono (msAt_l (m2 := lent as))).trans (g2'.mono (msAt_r (m1 := m1)))) (hup.holds (k := 0) (us := []) rfl r1 hnd mo how.all hh1.len.symm (fun i sl o ni e1 e2 => ?_) hh1.sep).1 (ro.dom fun a h => g1.dom a h)
  have r := hh1.at_ i sl o e1 e2
  cases sl with
  | dead => trivial
  | fz τ f => obtain ⟨v, ev, rv⟩ := r; exact ⟨v, ev, τ.mono g2'.ff rv⟩
  | ow ω f =>
    obtain ⟨p1, u1, ev, n1, h1, o1⟩ := r
    subst ev
    have nl : ¬ MsAt (lent as) σ p1 := fun ⟨j, hj, e3⟩ => by
      obtain ⟨ω', f', e4⟩ := how.all j hj
      exact hh1.sep i j ω ω' f f' p1 (fun z => ni (z ▸ hj)) e1 e4 e2 e3
    refine ⟨p1, u1, rfl, ?_, g2'.keep _ _ h1 nl, ω.mono g2'.ff o1⟩
    cases y : F2 p1 with
    | none => rfl
    | some o' =>
      rcases g2'.fresh p1 o' y with z | z
      · rw [n1] at z; cases z
      · rw [h1] at z; cases z

/-! #### lists put together -/
def rCatS (K : PySem.W.Frag) : R2 := fun x y H Q => ∃ l b xs zs, x = .ref l ∧ y = .ref b ∧ SqL K H l xs ∧ SqL K H b zs ∧ xs.length + zs.length ≤ sizeLine ∧ ∀ p, H p = none → Q (.ref p) (upd H p (.lst (xs ++ zs)))
theorem op_catS : OpR X (binaryOp .Add) (rCatS X.K) := by
  intro pins s σ H x y v u Q I rx ry h
  obtain ⟨l, b, xs, zs, rfl, rfl, hx, hz, hs, q⟩ := h
  cases rx
  cases ry
  obtain ⟨its, r, ⟨⟨cl, dd, da, sl⟩, n, ho, hc, hd0, hd⟩, _⟩ := I.list hx
  obtain ⟨its2, r2, ⟨⟨cl2, dd2, da2, sl2⟩, n2, ho2, hc2, hd02, hd2⟩, _⟩ := I.list hz
  simp only at hc hd hc2 hd2
  subst hc hd hc2 hd2
  have e : its.toArray ++ its2.toArray = (its ++ its2).toArray := by simp
  refine concat_meets ⟨_, ho, rfl⟩ ⟨_, ho2, rfl⟩ noFill_list_add seq_list_add PySem.F.slot_list_add PySem.F.entry_list_add (PySem.F.args_list_add_2 _ _) (PyProof.Rows.list_addW l b its.toArray its2.toArray n n2 dd dd2 sl sl2 (by rw [List.size_toArray, List.size_toArray, ← r.length, ← r2.length]; exact hs)) ⟨ho, ho2, ?_⟩
  rw [e]
  exact ⟨.ref _, _, I.lnew (t' := s.toks) (r.append r2) (by rw [List.length_append]; omega), rfl, q _ I.fresh⟩
theorem DO.cat {to : L.α → List τ.α} {to1 : L2'.α → List τ.α} {f : S → L.α} {g : S → L2'.α} (hl : LL L τ to) (hl1 : LL L2' τ to1) (ha : DX K X Δ a L m1 c1 Δ1 f ta) (hb : DX K X Δ1 b L2' m2 c2 Δ2 g tb) (hK : X.K = K := by rfl) : DO K X Δ (.BinOp a .Add b pos) (oList τ) (m1 ++ m2) (c1 ++ (c2 ++ [fun s => (to (f s)).length + (to1 (g s)).length ≤ sizeLine])) Δ2 (fun s => to (f s) ++ to1 (g s)) (tOp (rCatS K) ta tb) := by
  subst hK
  exact DO.bin (ω := oList τ) (cc := [fun x y => (to x).length + (to1 y).length ≤ sizeLine]) (g := fun x y => to x ++ to1 y) (fun x y v u F H sm r1 r2 hc Q q => by
    obtain ⟨a, vs, e1, s1, p1, z1⟩ := hl r1
    obtain ⟨b, ws, e2, s2, p2, z2⟩ := hl1 r2
    refine ⟨a, b, vs, ws, e1, e2, sm.seq s1, sm.seq s2, by rw [p1.length, p2.length]; exact hc.1, fun p n => q p _ n ⟨_, rfl, paired_app p1 p2, ?_⟩⟩
    rw [List.length_append]
    exact hc.1) ha hb fun p q => pe_op op_catS p q
theorem paired_flat {α β : Type} {R : α → β → Prop} {xs : List α} {ys : List β} (h : Paired R xs ys) : ∀ n : Nat, Paired R (List.replicate n xs).flatten (List.replicate n ys).flatten
  | 0 => .nil
  | n + 1 => by
    rw [List.replicate_succ, List.replicate_succ, List.flatten_cons, List.flatten_cons]
    exact paired_app h (paired_flat h n)
def repL {α : Type} (xs : List α) (n : Int) : List α := (List.replicate n.toNat xs).flatten
def RepOk {α : Type} (xs : List α) (n : Int) : Prop := -(2 ^ 63) ≤ n ∧ n < 2 ^ 63 ∧ xs.length * n.toNat ≤ sizeLine
theorem repL_len {α : Type} (xs : List α) (n : Int) : (repL xs n).length = xs.length * n.toNat := by
  unfold repL
  rw [List.length_flatten, List.map_replicate, List.sum_replicate_nat, Nat.mul_comm]
theorem DO.rep {f : S → List τ.α} {g : S → Int} (ha : DX K X Δ a (tList τ) m1 c1 Δ1 f ta) (hb : DX K X Δ1 b (tInt K) m2 c2 Δ2 g tb) : DO K X Δ (.BinOp a .Mult b pos) (oList τ) (m1 ++ m2) (c1 ++ (c2 ++ [fun s => RepOk (f s) (g s)])) Δ2 (fun s => repL (f s) (g s)) (tOp rRep ta tb) :=
  DO.bin (τa := tList τ) (τb := tInt K) (ω := oList τ) (cc := [fun x y => RepOk x y]) (g := fun x y => repL x y) (fun x y v u F H sm r1 r2 hc Q q => by
    obtain ⟨a, vs, e1, s1, p1, z1⟩ := r1
    obtain ⟨h1, h2, h3⟩ := hc.1
    refine ⟨a, y, vs, e1, r2, sm _ _ s1, h1, h2, by rw [p1.length]; exact h3, fun p n => q p _ n ⟨_, rfl, paired_flat p1 _, ?_⟩⟩
    rw [repL_len]
    exact h3) ha hb fun p q => pe_op op_rep p q
/-- a part of a slice -/
def DPo (K : PySem.W.Frag) (X : Cx) (Δ : Ctx K S) (o : Option Expr) (ms : List Nat) (cs : List (S → Prop)) (Δ1 : Ctx K S) (f : S → Option Int) (t : TO) : Prop :=
  Diff ms Δ Δ1 ∧ PO X o t ∧ ∀ s F H σ, Holds Δ s F H σ → Same F H → Conj cs s → ∀ Q : Option Int → Hp → Prop, (∀ F' H', Gr (MsAt ms σ) F H F' H' → Holds Δ1 s F' H' σ → Q (f s) H') → t σ H Q
theorem DPo.none : DPo K X Δ none [] [] Δ (fun _ => none) tNoPart := ⟨Diff.refl, po_none, fun s F H σ hh sm _ Q q => q F H (Gr.refl sm) hh⟩
theorem DPo.some {f : S → Int} (h : DX K X Δ e (tInt K) ms c1 Δ1 f ta) : DPo K X Δ (some e) ms c1 Δ1 (fun s => some (f s)) (tPart ta) :=
  ⟨h.1, po_some h.2.1, fun s F H σ hh sm hc Q q => h.2.2 s F H σ hh sm hc _ fun v F1 H1 g hh1 r => ⟨f s, r, q F1 H1 g hh1⟩⟩
def cutL {α : Type} (xs : List α) (lo hi : Option Int) : List α := (xs.drop (HT.sIx xs.length 0 lo)).take (HT.sIx xs.length xs.length hi - HT.sIx xs.length 0 lo)
theorem paired_drop {α β : Type} {R : α → β → Prop} : ∀ {xs : List α} {ys : List β} (n : Nat), Paired R xs ys → Paired R (xs.drop n) (ys.drop n)
  | _, _, 0, h => h
  | _, _, n + 1, .nil => .nil
  | _, _, n + 1, .cons _ t => paired_drop n t
theorem paired_take {α β : Type} {R : α → β → Prop} : ∀ {xs : List α} {ys : List β} (n : Nat), Paired R xs ys → Paired R (xs.take n) (ys.take n)
  | _, _, 0, _ => .nil
  | _, _, n + 1, .nil => .nil
  | _, _, n + 1, .cons r t => .cons r (paired_take n t)
theorem cutL_len {α : Type} (xs : List α) (lo hi : Option Int) : (cutL xs lo hi).length ≤ xs.length := by
  unfold cutL
  rw [List.length_take, List.length_drop]
  omega
theorem DO.sl {to : L.α → List τ.α} {f : S → L.α} {lo hi : Option Expr} {flo fhi : S → Option Int} {tlo thi : TO} {p2 : Pos} (hl : LL L τ to) (ha : DX K X Δ a L m1 c1 Δ1 f ta) (h1 : DPo K X Δ1 lo m2 c2 Δ2 flo tlo) (h2 : DPo K X Δ2 hi ms c3 Δ3 fhi thi) (hK : X.K = K := by rfl) : DO K X Δ (.Subscript a (.Slice lo hi none p2) pos) (oList τ) (m1 ++ (m2 ++ ms)) (c1 ++ (c2 ++ c3)) Δ3 (fun s => cutL (to (f s)) (flo s) (fhi s)) (tSl (rSlL K) ta tlo thi) := by
  subst hK
  obtain ⟨d1, p1, r1⟩ := ha
  obtain ⟨d2, q2, r2⟩ := h1
  obtain ⟨d3, q3, r3⟩ := h2
  refine ⟨d1.trans (d2.trans d3), pe_slice sl_list p1 q2 q3, fun s F H σ hh sm hc Q q => ?_⟩
  obtain ⟨k1, k2⟩ := conj_app hc
  obtain ⟨k2, k3⟩ := conj_app k2
  refine r1 s F H σ hh sm k1 _ fun v F1 H1 g1 hh1 w1 => r2 s F1 H1 σ hh1 g1.fh k2 _ fun F2 H2 g2 hh2 => r3 s F2 H2 σ hh2 g2.fh k3 _ fun F3 H3 g3 hh3 => ?_
  obtain ⟨a, vs, ev, sq, pr, z⟩ := hl (L.mono (g2.ff.trans g3.ff) w1)
  refine ⟨a, vs, ev, g3.fh.seq sq, fun p n => ?_⟩
  have ec : (cutV vs (flo s) (fhi s)) = (vs.drop (HT.sIx (to (f s)).length 0 (flo s))).take (HT.sIx (to (f s)).length (to (f s)).length (fhi s) - HT.sIx (to (f s)).length 0 (flo s)) := by
    unfold cutV
    rw [pr.length]
  have ow : (oList τ).own F3 (.lst (cutV vs (flo s) (fhi s))) (cutL (to (f s)) (flo s) (fhi s)) := ⟨_, rfl, by rw [ec]; exact paired_take _ (paired_drop _ pr), Nat.le_trans (cutL_len _ _ _) z⟩
  have g12 := (g1.mono (msAt_l (m2 := m2 ++ ms))).trans ((g2.mono (fun a h => msAt_r (m1 := m1) a (msAt_l (m2 := ms) a h))).trans (g3.mono fun a h => msAt_r (m1 := m1) a (msAt_r (m1 := m2) a h)))
  obtain ⟨g4, fn, e4⟩ := own_of_new (ω := oList τ) g3.fh n ow
  exact q p _ F3 _ (g12.trans g4.of0) (hh3.grow g4) (g12.dom p n) fn e4 ow

/-! #### two names stored at once -/
/-- a value fit for a slot -/
def Fit (F H : Hp) (s : S) (v : V) : Slot K S → Prop
  | .dead => True
  | .fz τ f => τ.rep F v (f s)
  | .ow ω f => ∃ p u, v = .ref p ∧ F p = none ∧ H p = some u ∧ ω.own F u (f s)
def DV (K : PySem.W.Frag) (X : Cx) (Δ : Ctx K S) (e : Expr) (sl : Slot K S) (ms : List Nat) (cs : List (S → Prop)) (Δ1 : Ctx K S) (t : TE) : Prop :=
  Diff ms Δ Δ1 ∧ PE X e t ∧ ∀ s F H σ, Holds Δ s F H σ → Same F H → Conj cs s → ∀ Q : VK, (∀ v F' H', Gr (MsAt ms σ) F H F' H' → Holds Δ1 s F' H' σ → Fit F' H' s v sl → (∀ (ω : OTy K) (f : S → ω.τ.α) p, sl = .ow ω f → v = .ref p → H p = none) → Q v H') → t σ H Q
theorem DV.fz {f : S → τ.α} (h : DX K X Δ e τ ms c1 Δ1 f ta) : DV K X Δ e (.fz τ f) ms c1 Δ1 ta := ⟨h.1, h.2.1, fun s F H σ hh sm hc Q q => h.2.2 s F H σ hh sm hc Q fun v F1 H1 g hh1 r => q v F1 H1 g hh1 r fun _ _ _ z => nomatch z⟩
theorem DV.ow {f : S → ω.τ.α} (h : DO K X Δ e ω ms c1 Δ1 f ta) : DV K X Δ e (.ow ω f) ms c1 Δ1 ta := ⟨h.1, h.2.1, fun s F H σ hh sm hc Q q => h.2.2 s F H σ hh sm hc Q fun p u F1 H1 g hh1 n1 n2 e1 o1 => q _ F1 H1 g hh1 ⟨p, u, rfl, n2, e1, o1⟩ fun _ _ p' _ e => by cases e; exact n1⟩
theorem DS.par {sa sb : Slot K S} {px py pt : Pos} {kt k2 : Nat} {pt2 : Pos} (ha : DV K X Δ a sa m1 c1 Δ1 ta) (hb : DV K X Δ1 b sb m2 c2 Δ2 tb) (hm : OwnAll Δ (m1 ++ m2)) (hN : X.N.Nodup) (hi : X.N[i]? = some x) (hj : X.N[j]? = some y) (hij : i ≠ j) (hx : X.env.scope.names.lookup x = some .local) (hy : X.env.scope.names.lookup y = some .local) (hu : i ∉ mus) (hu2 : j ∉ mus)
    (hw : swappedStores [.Tuple [.Name x px, .Name y py] kt pt] (.Tuple [a, b] k2 pt2) X.env = pure (some [x, y]) := by rfl) (hc : X.calm = true := by rfl) (hsw : swapsWithSole [.Tuple [.Name x px, .Name y py] kt pt] (.Tuple [a, b] k2 pt2) pos.line X.env = pure false := by rfl)
    (hs : starEach [a, b] X.env = (false, eval a X.env) :: starEach [b] X.env := by rfl) (hs2 : starEach [b] X.env = (false, eval b X.env) :: starEach [] X.env := by rfl) :
    DS K X mus Δ (.Assign [.Tuple [.Name x px, .Name y py] kt pt] (.Tuple [a, b] k2 pt2) pos) (c1 ++ c2) ((Δ2.set i sa).set j sb) := by
  obtain ⟨d1, p1, r1⟩ := ha
  obtain ⟨d2, p2, r2⟩ := hb
  refine ⟨_, ps_par hc hN hi hj hij hx hy (pa_cons p1 (pa_cons p2 pa_nil hs2) hs) hw hsw, fun s F H σ hh sm hc D q => ?_⟩
  obtain ⟨k1, k2⟩ := conj_app hc
  refine r1 s F H σ hh sm k1 _ fun v F1 H1 g1 hh1 f1 n1 => r2 s F1 H1 σ hh1 g1.fh k2 _ fun w F2 H2 g2 hh2 f2 n2 => ⟨v, w, rfl, ?_⟩
  have g12 := (g1.mono (msAt_l (m2 := m2))).trans (g2.mono (msAt_r (m1 := m1)))
  have gs : GrS mus Δ σ Δ2 σ F H F2 H2 := gs0 hm (d1.trans d2) hh g12
  -- what was made first still fits
  have f1' : Fit F2 H2 s v sa := by
    cases sa with
    | dead => trivial
    | fz τ f => exact τ.mono g2.ff f1
    | ow ω f =>
      obtain ⟨p, u, e, z1, z2, z3⟩ := f1
      have hn := n1 ω f p rfl e
      refine ⟨p, u, e, ?_, g2.keep _ _ z2 fun ⟨k, hk, e3⟩ => ?_, ω.mono g2.ff z3⟩
      · cases y0 : F2 p with
        | none => rfl
        | some o =>
          rcases g2.fresh p o y0 with t | t
          · rw [z1] at t; cases t
          · rw [z2] at t; cases t
      · obtain ⟨ω', f', e4⟩ := hm.all k (List.mem_append_right _ hk)
        obtain ⟨p', u', e5, _, e6, _⟩ := hh.at_ k _ _ e4 e3
        cases e5
        rw [hn] at e6; cases e6
  have nown : ∀ p, H p = none → ¬ Own Δ2 σ p := fun p hn ⟨k, ω, f, e1, e2⟩ => ((d1.trans d2).was hh e1 e2).2 hn
  have hA : Holds (Δ2.set i sa) s F2 H2 (σ.set i (some v)) := by
    cases sa with
    | dead =>
      exact ⟨by rw [List.length_set, List.length_set]; exact hh2.len, fun k sl o e1 e2 => by
        rcases get_set1 e1 with ⟨_, z, _⟩ | ⟨n, e1⟩
        · subst z; trivial
        · rw [List.getElem?_set_ne n] at e2; exact hh2.at_ k sl o e1 e2, fun k l ω ω' f f' p n e1 e2 e3 => by
        rcases get_set1 e1 with ⟨_, z, _⟩ | ⟨n1, e1⟩
        · cases z
        · rcases get_set1 e2 with ⟨_, z, _⟩ | ⟨n2, e2⟩
          · cases z
          · rw [List.getElem?_set_ne n1] at e3
            rw [List.getElem?_set_ne n2]
            exact hh2.sep k l ω ω' f f' p n e1 e2 e3⟩
    | fz τ f => exact hh2.setF f1'
    | ow ω f =>
      obtain ⟨p, u, e, z1, z2, z3⟩ := f1'
      subst e
      exact hh2.setO z1 z2 z3 (nown p (n1 ω f p rfl rfl))
  have gA : GrS mus Δ σ (Δ2.set i sa) (σ.set i (some v)) F H F2 H2 := gs.set hu hh2.len.symm fun ω f p e1 e2 => n1 ω f p e1 (Option.some.inj e2)
  have gB : GrS mus Δ σ ((Δ2.set i sa).set j sb) ((σ.set i (some v)).set j (some w)) F H F2 H2 := by
    refine { gs.toGrR with own := fun p ⟨k, ω, f, e1, e2⟩ => ?_, mu := fun k hk => by rw [List.getElem?_set_ne fun (e : j = k) => hu2 (by rw [e]; exact hk)]; exact gA.mu k hk }
    rcases get_set1 e1 with ⟨rfl, z, hl⟩ | ⟨n, e1⟩
    · rw [List.getElem?_set_self (by rw [hA.len]; exact hl)] at e2
      exact .inr (g1.dom p (n2 ω f p z.symm (Option.some.inj (Option.some.inj e2))))
    · rw [List.getElem?_set_ne n] at e2
      exact gA.own p ⟨k, ω, f, e1, e2⟩
  refine q _ F2 H2 gB ?_
  cases sb with
  | dead =>
    exact ⟨(List.length_set ..).trans (hA.len.trans (List.length_set ..).symm), fun k sl o e1 e2 => by
      rcases get_set1 e1 with ⟨_, z, _⟩ | ⟨n, e1⟩
      · subst z; trivial
      · rw [List.getElem?_set_ne n] at e2; exact hA.at_ k sl o e1 e2, fun k l ω ω' f f' p n e1 e2 e3 => by
      rcases get_set1 e1 with ⟨_, z, _⟩ | ⟨n1, e1⟩
      · cases z
      · rcases get_set1 e2 with ⟨_, z, _⟩ | ⟨n2, e2⟩
        · cases z
        · rw [List.getElem?_set_ne n1] at e3
          rw [List.getElem?_set_ne n2]
          exact hA.sep k l ω ω' f f' p n e1 e2 e3⟩
  | fz τ f => exact hA.setF f2
  | ow ω f =>
    obtain ⟨p, u, e, z1, z2, z3⟩ := f2
    subst e
    refine hA.setO z1 z2 z3 fun ⟨k, ω', f', e1, e2⟩ => ?_
    have hp := n2 ω f p rfl rfl
    rcases get_set1 e1 with ⟨rfl, z, hl⟩ | ⟨n, e1⟩
    · rw [List.getElem?_set_self (by rw [hh2.len]; exact hl)] at e2
      have ev : v = .ref p := Option.some.inj (Option.some.inj e2)
      subst z
      obtain ⟨p', u', e', _, z2', _⟩ := f1
      rw [ev] at e'; cases e'
      rw [hp] at z2'; cases z2'
    · rw [List.getElem?_set_ne n] at e2
      exact (d2.was hh1 e1 e2).2 hp
end
end Dx

/-! Dx, part J: the law's end. -/
namespace Dx
open PySem PySem.Spec PyProof.Rows L2
/-- the law's own def is called with the script; from a promise of the kind FnG -/
theorem law_end {P : Program} {w : World} {K : PySem.W.Frag} {mg mb : Str → Option Value} {k : Nat} {fa a : Addr} {fd : FuncData} {x : Str} {sp : Sp} {s1 : Shared} {vs : List Value} {ns : List Int}
    (KX : K.In s1.heap) (hns : s1.heap.Ns mainGlobals mg) (hb : s1.heap.Ns builtinsNs mb) (hbb : ∀ x : Str, x ≠ "__name__" → mb x = bootBuiltins x) (hlim : s1.heap.NoLimit) (hg : s1.gens = #[])
    (ha : s1.heap.get? a = some { cls := .type "list", data := .seq vs.toArray }) (hi : IntsAre vs ns) (hl : ns.length ≤ sizeLine) (hr : RoomG k callerA)
    (G : ∀ base : Heap, K.In base → base.Ns mainGlobals mg → FnG P w K mg base CX0 k fa fd [x] sp) (hbind : ∀ (s : Shared) (u : Value), BindsTo s fd ⟨[u], []⟩ [(x, u)])
    (hsp : ∀ H : Hp, Only H → SqL K H a (ns.map V.int) → sp [.ref a] H (fun v _ => v = .bl true) E0) :
    codeAny (model P w) callerA (.call (.ref fa) ⟨[.ref a], []⟩) (fun r s' => r = .ok (.ret (.bool true)) ∧ OldK s1.heap s'.heap ∧ s'.os = s1.os ∧ AllBare s'.gens) s1 := by
  have rv := vals_ints hi
  have main : ∀ H : Hp, Only H → SqL K H a (ns.map V.int) → HOk P w H s1.heap → (∀ b, H b ≠ none → b = a ∧ K.lookup a = none) →
      codeAny (model P w) callerA (.call (.ref fa) ⟨[.ref a], []⟩) (fun r s' => r = .ok (.ret (.bool true)) ∧ OldK s1.heap s'.heap ∧ s'.os = s1.os ∧ AllBare s'.gens) s1 := fun H hO hS hok hA => by
    have dictFree : ∀ {b : Addr} {o : Obj} {es : Array DictEntry} {ep : Nat}, s1.heap.get? b = some o → o.data = .dict es ep → H b = none := fun {b o es ep} e d => by
      cases q : H b with
      | none => rfl
      | some u =>
        obtain ⟨e', _⟩ := hA b (by rw [q]; exact fun z => nomatch z)
        rw [e', ha] at e
        cases e
        cases d
    have ns2 : ∀ {b : Addr} {m : Str → Option Value}, s1.heap.Ns b m → (hidT s1.heap H).Ns b m := fun ⟨o, es, ep, e, d, r⟩ => ⟨o, es, ep, hidT_get e (dictFree e d), d, r⟩
    have kb : K.In (hidT s1.heap H) := fun b o e => hidT_get (KX b o e) (by
      cases q : H b with
      | none => rfl
      | some u =>
        obtain ⟨e', n'⟩ := hA b (by rw [q]; exact fun z => nomatch z)
        rw [e'] at e
        rw [n'] at e
        cases e)
    have md : Mod K mg (hidT s1.heap H) := ⟨kb, ns2 hns, ⟨mb, ns2 hb, hbb⟩, let ⟨mc, h1, h2⟩ := hlim; ⟨mc, ns2 h1, h2⟩⟩
    have e0 : Env0 P w K mg (hidT s1.heap H) callerA [] s1 H := ⟨rfl, md, fun b o e => of_hidT e, Nat.le_of_eq (hidT_size _ _), trivial, fun b hb => absurd (show b ∈ ([] : List Addr) from hb) List.not_mem_nil, hok, .of_eq hg⟩
    refine codeAny_mono ((G _ kb (ns2 hns)).run callerA [] s1 H ⟨[.ref a], []⟩ [.ref a] [.ref a] _ _ hr e0 (hbind s1 (.ref a)) (.cons rfl .nil) (hsp H hO hS)) fun r s' h => ?_
    cases r with
    | error e => exact False.elim h
    | ok fl =>
      cases fl with
      | next => exact False.elim h
      | brk => exact False.elim h
      | cont => exact False.elim h
      | ret u =>
        obtain ⟨v, H', os, bare, un, hok', r', q⟩ := h
        have hu : u = Value.bool true := by
          rw [show v = V.bl true from q] at r'
          exact r'
        refine ⟨by rw [hu], OldK.of_keep fun b o e => ?_, os, bare⟩
        cases hb : H b with
        | none => exact un.keep b o e hb (fun z => absurd (show b ∈ ([] : List Addr) from z) List.not_mem_nil) List.not_mem_nil
        | some u =>
          rcases hO b with z | ⟨ob, xs, z⟩
          · rw [hb] at z; cases z
          · obtain ⟨e1, _⟩ := hok b _ z
            obtain ⟨e2, _⟩ := hok' b _ (un.frzs b ob _ z)
            rw [e] at e1; cases e1
            exact e2
  cases hk : K.lookup a with
  | some o =>
    have e := KX a o hk
    rw [ha] at e
    cases e
    exact main (fun _ => none) (fun _ => .inl rfl) (.inr ⟨_, vs.toArray, _, hk, rfl, rfl, rfl, by rw [List.size_toArray, hi.length]; exact hl, by simpa using rv⟩) (fun b u z => nomatch (show (none : Option HO) = some u from z)) fun b z => absurd rfl z
  | none =>
    have at1 : ∀ b, b = a → (fun b => if b = a then some (HO.frz { cls := .type "list", data := .seq vs.toArray } (.lst (ns.map V.int))) else none : Hp) b = some (.frz { cls := .type "list", data := .seq vs.toArray } (.lst (ns.map V.int))) := fun b hb => if_pos hb
    refine main (fun b => if b = a then some (.frz { cls := .type "list", data := .seq vs.toArray } (.lst (ns.map V.int))) else none) (fun b => ?_) (.inl (.inr ⟨_, at1 a rfl⟩)) (fun b u z => ?_) fun b z => ?_
    · by_cases hb : b = a
      · exact .inr ⟨_, _, at1 b hb⟩
      · exact .inl (if_neg hb)
    · by_cases hb : b = a
      · have z' := (at1 b hb).symm.trans z
        cases z'
        subst hb
        exact ⟨ha, by rw [List.length_map]; exact hl, vs, _, rv, ha⟩
      · have z' := (if_neg hb).symm.trans z
        cases z'
    · by_cases hb : b = a
      · exact ⟨hb, hk⟩
      · exact absurd (if_neg hb) z
/-- the goal that k_head leaves, from the law's promise -/
theorem law_walk {l : PySem.W.OpenLaw} {n k : Nat} {q : Program} {loose : List Str} {XP : (Str → Option Value) → Heap → Prop} {YP : World → Heap → Prop} {d : DefRec} {K : Params → PySem.W.Frag} {sp : World → Sp} {x : Str}
    (hn : l.most = some n) (hn2 : n ≤ sizeLine) (hdf : d.params.defaults = []) (hr : RoomG k callerA) (hY : ∀ (w : World) (h : Heap), YP w h → (K w.params).In h)
    (F : ∀ (w : World) (mg : Str → Option Value) (fa : Addr) (h : Heap), (K w.params).In h → h.Ns mainGlobals mg → mg d.name = some (.ref fa) →
      ∃ fd : FuncData, (∀ (s : Shared) (u : Value), BindsTo s fd ⟨[u], []⟩ [(x, u)]) ∧ ∀ base : Heap, (K w.params).In base → base.Ns mainGlobals mg → FnG l.prog w (K w.params) mg base CX0 k fa fd [x] (sp w))
    (hsp : ∀ (w : World) (H : Hp) (a : Addr) (ns : List Int), ns.length ≤ n → (∀ z ∈ ns, Builtin.Int.intBits z ≤ 1048576) → SqL (K w.params) H a (ns.map V.int) → sp w [.ref a] H (fun v _ => v = .bl true) E0) :
    PySem.W.WalkO q loose XP YP l.row.toRowW d [] (fun f vs => PySem.call f vs) :=
  Att.attach_callB hn hdf fun w s0 s1 mg mb fa o pm cd doc a vs ns G Y ho hd hcd hmg hobj hints hlen hbits hg => by
    have KX := hY w _ Y
    obtain ⟨fd, hb, hF⟩ := F w mg fa _ KX G.T.g hmg
    exact law_end KX G.T.g G.T.b G.T.builtins G.T.nolimit hg hobj hints (Nat.le_trans hlen hn2) hr hF hb fun H hO hS => hsp w H a ns hlen hbits hS
/-- the law's def: the script in, a bool out -/
abbrev fmLaw (K : PySem.W.Frag) : Fm K Bool := ⟨[.fz (tScr K)], .fz (tBool K), fun r => r, fun _ => ()⟩
/-- from data: the law's def gives True at every script -/
theorem law_sp {K : PySem.W.Frag} {p : List Int × Unit → Prop} {f : List Int × Unit → Bool} {H : Hp} {a : Addr} {ns : List Int} (h : SqL K H a (ns.map V.int)) (hl : ns.length ≤ sizeLine) (hp : p (ns, ())) (hf : f (ns, ()) = true) : SpOf (fmLaw K) p f [.ref a] H (fun v _ => v = .bl true) E0 := by
  refine ⟨H, (ns, ()), ⟨rfl, fun i sl o e1 e2 => ?_, fun i j ω ω' g g' q n e1 e2 e3 => ?_⟩, Same.refl H, hp, fun v F1 H1 g ro mo => ?_⟩
  · match i with
    | 0 =>
      have e1' : (Slot.fz (tScr K) fun s : HP [PK.fz (tScr K)] => s.1) = sl := by simpa [ctx0] using e1
      have e2' : some (V.ref a) = o := by simpa using e2
      subst e1' e2'
      exact ⟨_, rfl, a, rfl, h, hl⟩
    | i + 1 => simp [ctx0] at e1
  · match i with
    | 0 => simp [ctx0] at e1
    | i + 1 => simp [ctx0] at e1
  · have r : v = .bl (f (ns, ())) := ro
    rw [r, hf]
theorem def_fin {K : PySem.W.Frag} {X : Cx} {S R : Type} {fm : Fm K R} {Δ : Ctx K S} {sts : List Stmt} {cs : List (S → Prop)} {f fv : S → R} {p : S → Prop} (h : DR K X fm Δ sts cs f) (hf : ∀ s, f s = fv s) (hp : ∀ s, p s → Conj cs s) : ∃ cs, (∀ s, p s → Conj cs s) ∧ DB K X fm Δ sts cs fv := by
  have e : f = fv := funext hf
  exact ⟨cs, hp, .ofR (e ▸ h)⟩
theorem def_finN {K : PySem.W.Frag} {X : Cx} {S R : Type} {fm : Fm K R} {Δ Δ1 : Ctx K S} {sts : List Stmt} {cs : List (S → Prop)} {fv : S → R} {p : S → Prop} {g : S → HM fm.ps} (h : DN K X (musOf 0 fm.ps) Δ sts cs Δ1) (hg : MuF Δ1 0 fm.ps g) (hr : ResF fm (.fz (tNone K)) fv (fun _ => ()) g) (hp : ∀ s, p s → Conj cs s) : ∃ cs, (∀ s, p s → Conj cs s) ∧ DB K X fm Δ sts cs fv :=
  ⟨cs, hp, .ofN h hg hr⟩
end Dx

/-! Dx, part K: guards, powers, chains, isinstance, all and any, effects in branches, pop; and what the printed text leans on. -/
namespace Dx
open PySem PySem.Spec PyProof.Rows L2
section
variable {K : PySem.W.Frag} {X : Cx} {S R R' : Type} {Δ Δ1 Δ2 Δ3 Δa Δb : Ctx K S} {st : Stmt} {sts : List Stmt} {e a b c : Expr} {es : List Expr} {pos p' px apos : Pos} {τ τe τ1 τ2 L : Ty K} {ts : List (Ty K)} {ω : OTy K} {mus ms m1 m2 m3 : List Nat} {c1 c2 c3 cs : List (S → Prop)} {ta tb tc : TE} {tx tz : TT} {tl : TA} {i j : Nat} {x : Str} {fm : Fm K R}
/-! #### conversions: what is printed is what was derived -/
theorem DS.conv {c' : List (S → Prop)} {Δ' : Ctx K S} (h : DS K X mus Δ st cs Δ1) (e1 : cs = c') (e2 : Δ1 = Δ') : DS K X mus Δ st c' Δ' := e1 ▸ e2 ▸ h
theorem DSm.conv {r r' : S → Option R} {c' : List (S → Prop)} {Δ' : Ctx K S} (h : DSm K X fm Δ st cs r Δ1) (e1 : cs = c') (e2 : Δ1 = Δ') (e3 : r = r') : DSm K X fm Δ st c' r' Δ' := e1 ▸ e2 ▸ e3 ▸ h
theorem DN.conv {c' : List (S → Prop)} {Δ' : Ctx K S} (h : DN K X mus Δ sts cs Δ1) (e1 : cs = c') (e2 : Δ1 = Δ') : DN K X mus Δ sts c' Δ' := e1 ▸ e2 ▸ h
theorem DM.conv {r r' : S → Option R} {c' : List (S → Prop)} {Δ' : Ctx K S} (h : DM K X fm Δ sts cs r Δ1) (e1 : cs = c') (e2 : Δ1 = Δ') (e3 : r = r') : DM K X fm Δ sts c' r' Δ' := e1 ▸ e2 ▸ e3 ▸ h
theorem DR.conv {f f' : S → R} {c' : List (S → Prop)} (h : DR K X fm Δ sts cs f) (e1 : cs = c') (e3 : f = f') : DR K X fm Δ sts c' f' := e1 ▸ e3 ▸ h
theorem DX.conv {f f' : S → τ.α} {c' : List (S → Prop)} {Δ' : Ctx K S} (h : DX K X Δ e τ ms cs Δ1 f ta) (e1 : cs = c') (e2 : Δ1 = Δ') (e3 : f = f') : DX K X Δ e τ ms c' Δ' f' ta := e1 ▸ e2 ▸ e3 ▸ h
theorem DO.conv {f f' : S → ω.τ.α} {c' : List (S → Prop)} {Δ' : Ctx K S} (h : DO K X Δ e ω ms cs Δ1 f ta) (e1 : cs = c') (e2 : Δ1 = Δ') (e3 : f = f') : DO K X Δ e ω ms c' Δ' f' ta := e1 ▸ e2 ▸ e3 ▸ h
theorem DT.conv {f f' : S → Bool} {c' : List (S → Prop)} {Δ' : Ctx K S} (h : DT K X Δ e ms cs Δ1 f tx) (e1 : cs = c') (e2 : Δ1 = Δ') (e3 : f = f') : DT K X Δ e ms c' Δ' f' tx := e1 ▸ e2 ▸ e3 ▸ h
theorem Join.refl {h : S → Bool} : ∀ {Δ : Ctx K S}, Join h Δ Δ Δ
  | [] => .nil
  | _ :: _ => .same Join.refl
/-- a block that is not reached -/
theorem DN.dead : DN K X mus Δ sts [fun _ => False] Δ1 := by
  exact ⟨fun _ _ _ => False, ⟨fun _ _ _ _ _ _ h => h.elim⟩, fun s F H σ hh sm hc D q => hc.1.elim⟩
/-- if c: raise .. , where c is false -/
theorem DS.guard {h : S → Bool} {sa : List Stmt} (hc : DT K X Δ c ms c1 Δ1 h tx) (hm : OwnAll Δ ms) : DS K X mus Δ (.If c sa [] pos) (c1 ++ [fun s => h s = true → False]) Δ1 :=
  DS.ite hc hm DN.dead DN.nil Join.refl
/-! #### powers -/
def CPowX (i j : Int) : Prop := 0 ≤ j ∧ (Builtin.Int.intBits i : Int) * j ≤ 2 ^ 27
theorem op_powX : OpR X (binaryOp .Pow) (rI CPowX fun i j => .int (i ^ j.toNat)) := opI fun _ _ _ _ _ _ _ hc q => pow_int hc.1 hc.2 q
theorem DX.pow {fa fb : S → Int} (ha : DX K X Δ a (tInt K) m1 c1 Δ1 fa ta) (hb : DX K X Δ1 b (tInt K) m2 c2 Δ2 fb tb) : DX K X Δ (.BinOp a .Pow b pos) (tInt K) (m1 ++ m2) (c1 ++ (c2 ++ [fun s => CPowX (fa s) (fb s)])) Δ2 (fun s => fa s ^ (fb s).toNat) (tOp (rI CPowX fun i j => .int (i ^ j.toNat)) ta tb) :=
  DX.bin (τ := tInt K) (cc := [CPowX]) (g := fun (x y : Int) => x ^ y.toNat) (r2_I fun _ _ _ => rfl) ha hb fun p q => pe_op op_powX p q
/-! #### chains of ints -/
theorem chain_sem {P P' : Int → Int → Bool} {fa fb fc : S → Int} (ha : DX K X Δ a (tInt K) m1 c1 Δ1 fa ta) (hb : DX K X Δ1 b (tInt K) m2 c2 Δ2 fb tb) (hc : DX K X Δ2 c (tInt K) [] c3 Δ2 fc tc) :
    ∀ s F H σ, Holds Δ s F H σ → Same F H → Conj (c1 ++ (c2 ++ guardT (fun s => P (fa s) (fb s)) c3)) s → ∀ Q : VK, (∀ F' H', Gr (MsAt (m1 ++ m2) σ) F H F' H' → Holds Δ2 s F' H' σ → Q (.bl (P (fa s) (fb s) && P' (fb s) (fc s))) H') → tChain (rI0 fun i j => .bl (P i j)) (rI0 fun i j => .bl (P' i j)) ta tb tc σ H Q := by
  obtain ⟨d1, p1, r1⟩ := ha
  obtain ⟨d2, p2, r2⟩ := hb
  obtain ⟨d3, p3, r3⟩ := hc
  intro s F H σ hh sm hcs Q q
  obtain ⟨k1, k2⟩ := conj_app hcs
  obtain ⟨k2, k3⟩ := conj_app k2
  refine r1 s F H σ hh sm k1 _ fun v F1 H1 g1 hh1 e1 => r2 s F1 H1 σ hh1 g1.fh k2 _ fun w F2 H2 g2 hh2 e2 => ⟨fa s, fb s, e1, e2, P (fa s) (fb s), rfl, ?_⟩
  have g12 := (g1.mono (msAt_l (m2 := m2))).trans (g2.mono (msAt_r (m1 := m1)))
  cases e : P (fa s) (fb s) with
  | false =>
    rw [if_neg (by decide)]
    have := q F2 H2 g12 hh2
    rw [e] at this
    exact this
  | true =>
    rw [if_pos rfl]
    refine r3 s F2 H2 σ hh2 g2.fh (guardT_conj (g := fun s => P (fa s) (fb s)) e k3) _ fun z F3 H3 g3 hh3 e3 => ⟨fb s, fc s, e2, e3, ?_⟩
    rw [msAt_nil] at g3
    have := q F3 H3 (g12.trans g3.of0) hh3
    rw [e] at this
    exact this
theorem DX.chain {o o' : CmpOp} {P P' : Int → Int → Bool} {fa fb fc : S → Int} (ho : OpR X (compareOp o) (rI0 fun i j => .bl (P i j))) (ho' : OpR X (compareOp o') (rI0 fun i j => .bl (P' i j))) (ha : DX K X Δ a (tInt K) m1 c1 Δ1 fa ta) (hb : DX K X Δ1 b (tInt K) m2 c2 Δ2 fb tb) (hc : DX K X Δ2 c (tInt K) [] c3 Δ2 fc tc) (hm : lastMarks [o, o'] [b, c] = false := by with_unfolding_all rfl) :
    DX K X Δ (.Compare a [o, o'] [b, c] pos) (tBool K) (m1 ++ m2) (c1 ++ (c2 ++ guardT (fun s => P (fa s) (fb s)) c3)) Δ2 (fun s => P (fa s) (fb s) && P' (fb s) (fc s)) (tChain (rI0 fun i j => .bl (P i j)) (rI0 fun i j => .bl (P' i j)) ta tb tc) :=
  ⟨ha.1.trans hb.1, pe_chain ho ho' ha.2.1 hb.2.1 hc.2.1 hm, fun s F H σ hh sm hcs Q q => chain_sem ha hb hc s F H σ hh sm hcs Q fun F1 H1 g1 hh1 => q _ F1 H1 g1 hh1 rfl⟩
theorem DT.chain {o o' : CmpOp} {P P' : Int → Int → Bool} {fa fb fc : S → Int} (ho : OpR X (compareOp o) (rI0 fun i j => .bl (P i j))) (ho' : OpR X (compareOp o') (rI0 fun i j => .bl (P' i j))) (ha : DX K X Δ a (tInt K) m1 c1 Δ1 fa ta) (hb : DX K X Δ1 b (tInt K) m2 c2 Δ2 fb tb) (hc : DX K X Δ2 c (tInt K) [] c3 Δ2 fc tc) (hm : lastMarks [o, o'] [b, c] = false := by with_unfolding_all rfl) :
    DT K X Δ (.Compare a [o, o'] [b, c] pos) (m1 ++ m2) (c1 ++ (c2 ++ guardT (fun s => P (fa s) (fb s)) c3)) Δ2 (fun s => P (fa s) (fb s) && P' (fb s) (fc s)) (tTest (tChain (rI0 fun i j => .bl (P i j)) (rI0 fun i j => .bl (P' i j)) ta tb tc)) :=
  ⟨ha.1.trans hb.1, pt_chain ho ho' ha.2.1 hb.2.1 hc.2.1 hm, fun s F H σ hh sm hcs Q q => chain_sem ha hb hc s F H σ hh sm hcs _ fun F1 H1 g1 hh1 => ⟨_, rfl, q F1 H1 g1 hh1⟩⟩
def pLt (i j : Int) : Bool := decide (i < j)
def pLe (i j : Int) : Bool := decide (i ≤ j)
def pGt (i j : Int) : Bool := decide (j < i)
def pGe (i j : Int) : Bool := decide (j ≤ i)
theorem ch_lt : OpR X (compareOp .Lt) (rI0 fun i j => .bl (pLt i j)) := op_lt
theorem ch_le : OpR X (compareOp .LtE) (rI0 fun i j => .bl (pLe i j)) := op_le
theorem ch_gt : OpR X (compareOp .Gt) (rI0 fun i j => .bl (pGt i j)) := op_gt
theorem ch_ge : OpR X (compareOp .GtE) (rI0 fun i j => .bl (pGe i j)) := op_ge
/-! #### isinstance of data whose type is known -/
def KindOf (τ : Ty K) (T : String) : Prop := ∀ F H v x, Same F H → τ.rep F v x → TyX K H v (.type T)
theorem kind_int : KindOf (tInt K) "int" := fun F H v x sm r => by rw [show v = .int x from r]; exact .base (.int x)
theorem kind_bool : KindOf (tBool K) "bool" := fun F H v x sm r => by rw [show v = .bl x from r]; exact .base (.bl x)
theorem kind_str : KindOf (tStr K) "str" := fun F H v x sm r => by rw [r.1]; exact .base (.str x)
theorem kind_non : KindOf (tNone K) "NoneType" := fun F H v x sm r => by rw [show v = .non from r]; exact .base .non
theorem kind_list {τ : Ty K} : KindOf (tList τ) "list" := fun F H v x sm ⟨a, vs, e, q, _⟩ => by rw [e]; exact .base (.lst (sm _ _ q))
theorem kind_tup {ts : List (Ty K)} : KindOf (tTp ts) "tuple" := fun F H v x sm ⟨a, vs, e, q, _⟩ => by rw [e]; exact .base (.tup (sm _ _ q))
def rIsi1 (T : String) (K : PySem.W.Frag) : List V → Hp → VK → Prop := rIsi K
theorem DX.isi {T T2 : String} {r : Bool} {y : Str} {f : S → τ.α} {py : Pos} (he : DX K X Δ e τ ms c1 Δ1 f ta) (hk : KindOf τ T) (hb : kitB T T2 = some r) (hm : X.mg "isinstance" = none) (hm2 : X.mg y = none) (hv2 : bootBuiltins y = some (.type T2)) (hn2 : y ≠ "__name__" := by decide) (hd2 : (y == ("__debug__" : Str)) = false := by decide) (hK : X.K = K := by rfl) (hg : Gl X "isinstance" := by rfl) (hg2 : Gl X y := by rfl)
    (hs : starEach [e, .Name y py] X.env = (false, eval e X.env) :: starEach [.Name y py] X.env := by rfl) (hs2 : starEach [.Name y py] X.env = (false, eval (.Name y py) X.env) :: starEach [] X.env := by rfl) (hpl : (backTo pos (starEach [.Name y py] X.env)).any (·.1) = false := by rfl) :
    DX K X Δ (.Call (.Name "isinstance" px) [e, .Name y py] [] pos) (tBool K) ms c1 Δ1 (fun _ => r) (tCB (rIsi K) (tCons ta (tCons (tC (.ty T2)) tNil))) := by
  subst hK
  obtain ⟨d, p, q1⟩ := he
  refine ⟨d, pe_callB call_isi hg hm (by decide +kernel) (pa_cons p (pa_cons (pe_bltn hg2 hm2 hv2 rfl hn2 hd2) pa_nil hs2) hs) (by decide) (by decide) hs hpl, fun s F H σ hh sm hc Q q => ?_⟩
  exact q1 s F H σ hh sm hc _ fun v F1 H1 g1 hh1 r1 => ⟨v, .ty T2, .type T, .type T2, r, rfl, .ty T2, hk F1 H1 v _ g1.fh r1, kit_ty hb, q _ F1 H1 g1 hh1 rfl⟩
/-! #### all, any -/
theorem paired_bls : ∀ {vs : List V} {bs : List Bool}, Paired (fun v x => v = V.bl x) vs bs → vs = bs.map V.bl
  | _, _, .nil => rfl
  | _, _, .cons r t => by rw [r, paired_bls t]; rfl
theorem DX.all {f : S → List Bool} (hm : X.mg "all" = none) (he : DX K X Δ e (tList (tBool K)) ms c1 Δ1 f ta) (hK : X.K = K := by rfl) (hcm : X.calm = true := by rfl) (hg : Gl X "all" := by rfl) (hs : starEach [e] X.env = (false, eval e X.env) :: starEach [] X.env := by rfl) (hpl : (backTo pos (starEach [] X.env)).any (·.1) = false := by rfl) :
    DX K X Δ (.Call (.Name "all" px) [e] [] pos) (tBool K) ms (c1 ++ []) Δ1 (fun s => (f s).all id) (tCB (rAll K) (tCons ta tNil)) := by
  subst hK
  exact DX.call1 (τ1 := tBool X.K) (cc := []) (g := fun (x : List Bool) => x.all id) (cr_all hcm) (fun v x F H sm r _ Q q => by
    obtain ⟨a, vs, ev, sq, pr, _⟩ := r
    exact ⟨a, x, by rw [ev], by rw [← paired_bls pr]; exact .inl (.inl (sm _ _ sq)), q _ F H (Gr.refl sm) rfl⟩) hm (by decide +kernel) he hg (by decide) (by decide) hs hpl
theorem DX.any {f : S → List Bool} (hm : X.mg "any" = none) (he : DX K X Δ e (tList (tBool K)) ms c1 Δ1 f ta) (hK : X.K = K := by rfl) (hcm : X.calm = true := by rfl) (hg : Gl X "any" := by rfl) (hs : starEach [e] X.env = (false, eval e X.env) :: starEach [] X.env := by rfl) (hpl : (backTo pos (starEach [] X.env)).any (·.1) = false := by rfl) :
    DX K X Δ (.Call (.Name "any" px) [e] [] pos) (tBool K) ms (c1 ++ []) Δ1 (fun s => (f s).any id) (tCB (rAny K) (tCons ta tNil)) := by
  subst hK
  exact DX.call1 (τ1 := tBool X.K) (cc := []) (g := fun (x : List Bool) => x.any id) (cr_any hcm) (fun v x F H sm r _ Q q => by
    obtain ⟨a, vs, ev, sq, pr, _⟩ := r
    exact ⟨a, x, by rw [ev], by rw [← paired_bls pr]; exact .inl (.inl (sm _ _ sq)), q _ F H (Gr.refl sm) rfl⟩) hm (by decide +kernel) he hg (by decide) (by decide) hs hpl
/-! #### effects in one branch -/
theorem DX.iteE (i : Nat) {f : S → Bool} {ga gb : S → τ.α} {f0 f1 f2 : S → ω.τ.α} (hc : DT K X Δ c m1 c1 Δ1 f tz) (h0 : Δ1[i]? = some (.ow ω f0)) (ha : DX K X Δ1 a τ m2 c2 Δa ga ta) (hb : DX K X Δ1 b τ m3 c3 Δb gb tb) (ea : Δa = Δ1.set i (.ow ω f1)) (eb : Δb = Δ1.set i (.ow ω f2)) (h2 : ∀ k ∈ m2, k = i) (h3 : ∀ k ∈ m3, k = i) :
    DX K X Δ (.IfExp c a b pos) τ (m1 ++ [i]) (c1 ++ (guardT f c2 ++ guardF f c3)) (Δ1.set i (.ow ω fun s => if f s = true then f1 s else f2 s)) (fun s => if f s = true then ga s else gb s) (tIf tz ta tb) := by
  subst ea eb
  obtain ⟨d1, p1, r1⟩ := hc
  obtain ⟨d2, p2, r2⟩ := ha
  obtain ⟨d3, p3, r3⟩ := hb
  have hl : i < Δ1.length := (List.getElem?_eq_some_iff.mp h0).1
  have as_ : ∀ {s : S} {g : S → ω.τ.α} {F H : Hp} {σ : L2.St}, (if f s = true then f1 s else f2 s) = g s → Holds (Δ1.set i (.ow ω g)) s F H σ → Holds (Δ1.set i (.ow ω fun s => if f s = true then f1 s else f2 s)) s F H σ := fun {s g F H σ} e hh => by
    refine ⟨by rw [List.length_set, hh.len, List.length_set], fun j sl o e1 e2 => ?_, fun j k ω1 ω2 g1 g2 p n e1 e2 e3 => ?_⟩
    · rcases get_set1 e1 with ⟨rfl, rfl, _⟩ | ⟨n, e1⟩
      · obtain ⟨p, u, w1, w2, w3, w4⟩ := hh.at_ i _ o (List.getElem?_set_self hl) e2
        exact ⟨p, u, w1, w2, w3, by show ω.own F u (if f s = true then f1 s else f2 s); rw [e]; exact w4⟩
      · exact hh.at_ j sl o (by rw [List.getElem?_set_ne n]; exact e1) e2
    · have up : ∀ {j : Nat} {ω1 : OTy K} {g1 : S → ω1.τ.α}, (Δ1.set i (.ow ω fun s => if f s = true then f1 s else f2 s))[j]? = some (.ow ω1 g1) → ∃ (ω1' : OTy K) (g1' : S → ω1'.τ.α), (Δ1.set i (.ow ω g))[j]? = some (.ow ω1' g1') := fun {j ω1 g1} e => by
        rcases get_set1 e with ⟨rfl, _, _⟩ | ⟨n, e⟩
        · exact ⟨_, _, List.getElem?_set_self hl⟩
        · exact ⟨_, _, by rw [List.getElem?_set_ne n]; exact e⟩
      obtain ⟨_, _, q1⟩ := up e1
      obtain ⟨_, _, q2⟩ := up e2
      exact hh.sep j k _ _ _ _ p n q1 q2 e3
  have mm : ∀ {m : List Nat} {σ : L2.St}, (∀ k ∈ m, k = i) → ∀ a, MsAt m σ a → MsAt [i] σ a := fun h a ⟨k, hk, e⟩ => ⟨i, List.mem_singleton.mpr rfl, h k hk ▸ e⟩
  refine ⟨d1.trans (diff_mut h0), pe_ifExp p1 p2 p3, fun s F H σ hh sm hcs Q q => ?_⟩
  obtain ⟨k1, k2⟩ := conj_app hcs
  obtain ⟨k2, k3⟩ := conj_app k2
  refine r1 s F H σ hh sm k1 _ fun F1 H1 g1 hh1 => ?_
  have go : ∀ {F2 H2 : Hp}, Gr (MsAt [i] σ) F1 H1 F2 H2 → Gr (MsAt (m1 ++ [i]) σ) F H F2 H2 := fun g => (g1.mono (msAt_l (m2 := [i]))).trans (g.mono (msAt_r (m1 := m1)))
  cases e : f s with
  | true =>
    show ta σ H1 Q
    refine r2 s F1 H1 σ hh1 g1.fh (guardT_conj e k2) _ fun v F2 H2 g2 hh2 rv => ?_
    refine q v F2 H2 (go (g2.mono (mm h2))) (as_ (g := f1) (by rw [e]; rfl) hh2) ?_
    simp only [e, if_true]
    exact rv
  | false =>
    show tb σ H1 Q
    refine r3 s F1 H1 σ hh1 g1.fh (guardF_conj e k3) _ fun v F2 H2 g2 hh2 rv => ?_
    refine q v F2 H2 (go (g2.mono (mm h3))) (as_ (g := f2) (by rw [e]; rfl) hh2) ?_
    simp only [e, Bool.false_eq_true, if_false]
    exact rv
/-! #### is of bools -/
theorem DX.isB {f g : S → Bool} (ha : DX K X Δ a (tBool K) m1 c1 Δ1 f ta) (hb : DX K X Δ1 b (tBool K) m2 c2 Δ2 g tb) : DX K X Δ (.Compare a [.Is] [b] pos) (tBool K) (m1 ++ m2) (c1 ++ (c2 ++ [])) Δ2 (fun s => decide (f s = g s)) (tOp rIsB ta tb) :=
  DX.bin (τ := tBool K) (cc := []) (g := fun (x y : Bool) => decide (x = y)) (fun x y v u F H sm r1 r2 _ Q q => ⟨x, y, r1, r2, q _ F H (Gr.refl sm) rfl⟩) ha hb fun p q => pe_cmpR op_isBl p q (nomark _)
/-- len of a tuple -/
theorem DX.lenT {f : S → HL ts} (hm : X.mg "len" = none) (he : DX K X Δ e (tTp ts) ms c1 Δ1 f ta) (hK : X.K = K := by rfl) (hg : Gl X "len" := by rfl) (hs : starEach [e] X.env = (false, eval e X.env) :: starEach [] X.env := by rfl) (hpl : (backTo pos (starEach [] X.env)).any (·.1) = false := by rfl) :
    DX K X Δ (.Call (.Name "len" px) [e] [] pos) (tInt K) ms (c1 ++ []) Δ1 (fun _ => (ts.length : Int)) (tCB (fun xs H Q => ∃ p ys, xs = [.ref p] ∧ (SqL K H p ys ∨ SqT K H p ys) ∧ Q (.int ys.length) H) (tCons ta tNil)) := by
  subst hK
  exact DX.call1 (τ1 := tInt X.K) (cc := []) (g := fun _ => (ts.length : Int)) call_len_seq (fun v x F H sm r _ Q q => by
    obtain ⟨a, vs, ev, sq, pr⟩ := r
    exact ⟨a, vs, by rw [ev], .inr (.inl (.inl (sm _ _ sq))), q _ F H (Gr.refl sm) (by rw [pr.length])⟩) hm PySem.boot_len he hg (by decide) (by decide) hs hpl
end
end Dx

/-! Dx, part L: small words of the printed text. -/
namespace Dx
open PySem PySem.Spec PyProof.Rows L2
section
variable {K : PySem.W.Frag} {X : Cx} {S : Type} {Δ Δ1 : Ctx K S} {mus ms : List Nat} {e : Expr} {τ : Ty K} {ω : OTy K} {cs : List (S → Prop)} {ta : TE} {tx : TT}
theorem DN.fin (e : Δ = Δ1) : DN K X mus Δ [] [] Δ1 := e ▸ DN.nil
theorem DX.pu {f : S → τ.α} (h : DX K X Δ e τ ms cs Δ1 f ta) (e1 : ms = []) (e2 : Δ1 = Δ) : DX K X Δ e τ [] cs Δ f ta := by
  subst e1 e2
  exact h
theorem DT.pu {f : S → Bool} (h : DT K X Δ e ms cs Δ1 f tx) (e1 : ms = []) (e2 : Δ1 = Δ) : DT K X Δ e [] cs Δ f tx := by
  subst e1 e2
  exact h
theorem DW.pu {f : S → Bool} (h : DW K X Δ e ms cs Δ1 f tx) (e1 : ms = []) (e2 : Δ1 = Δ) : DW K X Δ e [] cs Δ f tx := by
  subst e1 e2
  exact h
theorem DO.pu {f : S → ω.τ.α} (h : DO K X Δ e ω ms cs Δ1 f ta) (e1 : ms = []) (e2 : Δ1 = Δ) : DO K X Δ e ω [] cs Δ f ta := by
  subst e1 e2
  exact h
theorem DX.ofL {f : S → List τ.α} (h : DO K X Δ e (oList τ) ms cs Δ1 f ta) : DX K X Δ e (tList τ) ms cs Δ1 f ta := DX.ofO h
theorem DI.conv {tg iter : Expr} {wi : TI} {f f' : S → List τ.α} {c' : List (S → Prop)} {Δ' : Ctx K S} (h : DI K X Δ tg iter τ ms cs Δ1 f wi) (e1 : cs = c') (e2 : Δ1 = Δ') (e3 : f = f') : DI K X Δ tg iter τ ms c' Δ' f' wi := e1 ▸ e2 ▸ e3 ▸ h
theorem n64 {n m : Nat} (h : n = m) (hm : m ≤ 64 := by decide) : n ≤ 64 := h ▸ hm
theorem nd1 {j : Nat} : List.Nodup [j] := List.nodup_cons.mpr ⟨List.not_mem_nil, List.nodup_nil⟩
end
/-- what need not be looked into -/
@[irreducible] def hide {α : Type} (x : α) : α := x
theorem hide_eq {α : Type} (x : α) : hide x = x := by unfold hide; rfl
@[irreducible] def LoopF {M α : Type} (step : M → α → M) (xs : List α) (m : M) : M := loopF step xs m
@[irreducible] def LoopR {M α R : Type} (r : M → α → Option R) (step : M → α → M) (xs : List α) (m : M) : Option R := loopR r step xs m
theorem LoopF_eq {M α : Type} (step : M → α → M) (xs : List α) (m : M) : LoopF step xs m = loopF step xs m := by unfold LoopF; rfl
theorem LoopR_eq {M α R : Type} (r : M → α → Option R) (step : M → α → M) (xs : List α) (m : M) : LoopR r step xs m = loopR r step xs m := by unfold LoopR; rfl
section
variable {K : PySem.W.Frag} {X : Cx} {S M R : Type} {fm : Fm K R} {Δ Δ1 : Ctx K S} {Δl : Ctx K (S × M)} {body : List Stmt} {tg iter : Expr} {pos : Pos} {τ : Ty K} {Δb Δe : Ctx K ((S × M) × τ.α)} {mus ms is : List Nat} {c1 : List (S → Prop)} {cb : List ((S × M) × τ.α → Prop)} {wi : TI} {g : TG} {fx : S → List τ.α} {init : S → M} {step : (S × M) × τ.α → M}
theorem DS.forH (hi : DI K X Δ tg iter τ ms c1 Δ1 fx wi) (hm : OwnAll Δ ms) (h0 : Head init Δ1 Δl) (hg : DG K X (Δl.comap Prod.fst) tg τ Prod.snd is Δb g) (his : ∀ j ∈ is, j ∉ mus) (hb : DN K X mus Δb body cb Δe) (hk : Back step Δe Δl)
    (hp : PassesOwn (model X.prog X.w) X.A X.env X.xe := by exact PassesOwn.never) (hc : X.calm = true := by rfl) (hs : ∀ x, foldedSetIterable iter X.env x = pure x := by intro _; rfl) :
    DS K X mus Δ (.For tg iter body [] pos) (c1 ++ [fun s => loopC (fun m x => Conj cb ((s, m), x)) (fun m x => step ((s, m), x)) (fx s) (init s)]) (Δl.comap fun s => (s, LoopF (fun m x => step ((s, m), x)) (fx s) (init s))) := by
  rw [show (fun s => (s, LoopF (fun m x => step ((s, m), x)) (fx s) (init s))) = fun s => (s, loopF (fun m x => step ((s, m), x)) (fx s) (init s)) from funext fun s => by rw [LoopF_eq]]
  exact DS.for_ hi hm h0 hg his hb hk hp hc hs
theorem DSm.forH {r : (S × M) × τ.α → Option R} (hi : DI K X Δ tg iter τ ms c1 Δ1 fx wi) (hm : OwnAll Δ ms) (h0 : Head init Δ1 Δl) (hg : DG K X (Δl.comap Prod.fst) tg τ Prod.snd is Δb g) (his : ∀ j ∈ is, j ∉ musOf 0 fm.ps) (hb : DM K X fm Δb body cb r Δe) (hk : Back step Δe Δl)
    (hp : PassesOwn (model X.prog X.w) X.A X.env X.xe := by exact PassesOwn.never) (hc : X.calm = true := by rfl) (hs : ∀ x, foldedSetIterable iter X.env x = pure x := by intro _; rfl) :
    DSm K X fm Δ (.For tg iter body [] pos) (c1 ++ [fun s => loopCr (fun m x => Conj cb ((s, m), x)) (fun m x => r ((s, m), x)) (fun m x => step ((s, m), x)) (fx s) (init s)]) (fun s => LoopR (fun m x => r ((s, m), x)) (fun m x => step ((s, m), x)) (fx s) (init s)) (Δl.comap fun s => (s, LoopF (fun m x => step ((s, m), x)) (fx s) (init s))) := by
  rw [show (fun s => (s, LoopF (fun m x => step ((s, m), x)) (fx s) (init s))) = fun s => (s, loopF (fun m x => step ((s, m), x)) (fx s) (init s)) from funext fun s => by rw [LoopF_eq], show (fun s => LoopR (fun m x => r ((s, m), x)) (fun m x => step ((s, m), x)) (fx s) (init s)) = fun s => loopR (fun m x => r ((s, m), x)) (fun m x => step ((s, m), x)) (fx s) (init s) from funext fun s => by rw [LoopR_eq]]
  exact DSm.for_ hi hm h0 hg his hb hk hp hc hs
end
end Dx

/-! Dx, part M: a new object handed to a def that changes it; pop; the script compared. -/
namespace Dx
open PySem PySem.Spec PyProof.Rows L2
section
variable {K : PySem.W.Frag} {X : Cx} {S R R' : Type} {Δ Δ1 Δ2 Δ3 : Ctx K S} {e a b : Expr} {es : List Expr} {pos p' px apos : Pos} {τ : Ty K} {ω : OTy K} {ms m1 m2 l2 : List Nat} {c1 c2 cs : List (S → Prop)} {ta tb : TE} {tl : TA} {i j : Nat} {x : Str} {fm : Fm K R'} {s : S} {F H F1 H1 : Hp} {σ : L2.St} {as : List (AK K S)} {h : S → ω.τ.α} {sl : Slot K S}
/-- arguments among which is one new object: it stands behind the frame -/
def DAn (K : PySem.W.Frag) (X : Cx) (Δ : Ctx K S) (es : List Expr) (ω : OTy K) (ms : List Nat) (cs : List (S → Prop)) (Δ1 : Ctx K S) (h : S → ω.τ.α) (as : List (AK K S)) (t : TA) : Prop :=
  Diff ms Δ Δ1 ∧ PA X es t ∧ ∀ s F H σ, Holds Δ s F H σ → Same F H → Conj cs s → ∀ Q : List V → Hp → Prop, (∀ vs p u F' H', Gr (MsAt ms σ) F H F' H' → Holds Δ1 s F' H' σ → H p = none → F' p = none → H' p = some u → ω.own F' u (h s) → AkAll F' (σ ++ [some (.ref p)]) s as vs → Q vs H') → t σ H Q
theorem ak_ext {o : Option V} : ∀ {a : AK K S} {v : V}, AkRep F σ s a v → AkRep F (σ ++ [o]) s a v
  | .fz τ f, _, r => r
  | .mu j, v, r => by
    have r' : σ[j]? = some (some v) := r
    show (σ ++ [o])[j]? = some (some v)
    rw [List.getElem?_append_left (List.getElem?_eq_some_iff.mp r').1]
    exact r'
theorem akAll_ext {o : Option V} : ∀ {as : List (AK K S)} {vs : List V}, AkAll F σ s as vs → AkAll F (σ ++ [o]) s as vs
  | [], _, r => r
  | _ :: _, _, ⟨v, r, e, r1, r2⟩ => ⟨v, r, e, ak_ext r1, akAll_ext r2⟩
theorem DAn.here (he : DO K X Δ e ω m1 c1 Δ1 h ta) (hb : DA K X Δ1 es m2 c2 Δ2 as tl) (hm2 : OwnAll Δ1 m2) (n : Nat) (hn : Δ.length = n) (hs : starEach (e :: es) X.env = (false, eval e X.env) :: starEach es X.env := by rfl) : DAn K X Δ (e :: es) ω (m1 ++ m2) (c1 ++ c2) Δ2 h (.mu n :: as) (tCons ta tl) := by
  subst hn
  obtain ⟨d1, pa, ra⟩ := he
  obtain ⟨d2, pb, rb⟩ := hb
  refine ⟨d1.trans d2, pa_cons pa pb hs, fun s F H σ hh sm hc Q q => ?_⟩
  obtain ⟨k1, k2⟩ := conj_app hc
  refine ra s F H σ hh sm k1 _ fun p u F1 H1 g1 hh1 n1 n2 e1 o1 => ?_
  refine rb s F1 H1 σ hh1 g1.fh k2 _ fun vs F2 H2 g2 hh2 r2 => ?_
  have nm : ¬ MsAt m2 σ p := fun ⟨k, hk, ek⟩ => by
    obtain ⟨ω', f', h'⟩ := hm2.all k hk
    exact (d1.was hh h' ek).2 n1
  refine q _ p u F2 H2 ((g1.mono (msAt_l (m2 := m2))).trans (g2.mono (msAt_r (m1 := m1)))) hh2 n1 ?_ (g2.keep _ _ e1 nm) (ω.mono g2.ff o1) ⟨.ref p, vs, rfl, ?_, akAll_ext r2⟩
  · cases y : F2 p with
    | none => rfl
    | some o' =>
      rcases g2.fresh p o' y with z | z
      · rw [n2] at z; cases z
      · rw [e1] at z; cases z
  · show (σ ++ [some (.ref p)])[Δ.length]? = some (some (.ref p))
    rw [← hh.len, List.getElem?_append_right (Nat.le_refl _), Nat.sub_self]
    rfl
theorem DAn.cons {f : S → τ.α} (ha : DX K X Δ e τ m1 c1 Δ1 f ta) (hb : DAn K X Δ1 es ω m2 c2 Δ2 h as tl) (hs : starEach (e :: es) X.env = (false, eval e X.env) :: starEach es X.env := by rfl) : DAn K X Δ (e :: es) ω (m1 ++ m2) (c1 ++ c2) Δ2 h (.fz τ f :: as) (tCons ta tl) := by
  obtain ⟨d1, pa, ra⟩ := ha
  obtain ⟨d2, pb, rb⟩ := hb
  refine ⟨d1.trans d2, pa_cons pa pb hs, fun s F H σ hh sm hc Q q => ?_⟩
  obtain ⟨k1, k2⟩ := conj_app hc
  refine ra s F H σ hh sm k1 _ fun v F1 H1 g1 hh1 r1 => ?_
  refine rb s F1 H1 σ hh1 g1.fh k2 _ fun vs p u F2 H2 g2 hh2 n1 n2 e1 o1 r2 => ?_
  exact q _ p u F2 H2 ((g1.mono (msAt_l (m2 := m2))).trans (g2.mono (msAt_r (m1 := m1)))) hh2 (g1.dom p n1) n2 e1 o1 ⟨v, vs, rfl, τ.mono g2.ff r1, r2⟩
theorem holds_ext {p : Addr} {u : HO} (hh : Holds Δ s F H σ) (n : F p = none) (e : H p = some u) (o : ω.own F u (h s)) (far : ∀ (i : Nat) (ω' : OTy K) (f' : S → ω'.τ.α), Δ[i]? = some (.ow ω' f') → σ[i]? ≠ some (some (.ref p))) : Holds (Δ ++ [.ow ω h]) s F H (σ ++ [some (.ref p)]) where
  len := by rw [List.length_append, List.length_append, hh.len]; rfl
  at_ := fun i sl o' e1 e2 => by
    by_cases hi : i < Δ.length
    · rw [List.getElem?_append_left hi] at e1
      rw [List.getElem?_append_left (by rw [hh.len]; exact hi)] at e2
      exact hh.at_ i sl o' e1 e2
    · have hl := (List.getElem?_eq_some_iff.mp e1).1
      rw [List.length_append] at hl
      obtain rfl : i = Δ.length := by simp at hl; omega
      rw [List.getElem?_append_right (Nat.le_refl _), Nat.sub_self] at e1
      rw [← hh.len, List.getElem?_append_right (Nat.le_refl _), Nat.sub_self] at e2
      cases e1
      cases e2
      exact ⟨p, u, rfl, n, e, o⟩
  sep := fun i j ω1 ω2 f1 f2 q ne e1 e2 e3 e4 => by
    have cut : ∀ {i : Nat} {ω1 : OTy K} {f1 : S → ω1.τ.α}, (Δ ++ [Slot.ow ω h])[i]? = some (.ow ω1 f1) → (i < Δ.length ∧ Δ[i]? = some (.ow ω1 f1)) ∨ i = Δ.length := fun {i ω1 f1} e1 => by
      by_cases hi : i < Δ.length
      · rw [List.getElem?_append_left hi] at e1; exact .inl ⟨hi, e1⟩
      · have hl := (List.getElem?_eq_some_iff.mp e1).1
        rw [List.length_append] at hl
        exact .inr (by simp at hl; omega)
    have last : ∀ {i : Nat} {v : V}, i = Δ.length → (σ ++ [some (.ref p)])[i]? = some (some v) → v = .ref p := fun {i v} hi e => by
      subst hi
      rw [← hh.len, List.getElem?_append_right (Nat.le_refl _), Nat.sub_self] at e
      cases e; rfl
    rcases cut e1 with ⟨l1, k1⟩ | k1
    · rw [List.getElem?_append_left (by rw [hh.len]; exact l1)] at e3
      rcases cut e2 with ⟨l2, k2⟩ | k2
      · rw [List.getElem?_append_left (by rw [hh.len]; exact l2)] at e4
        exact hh.sep i j ω1 ω2 f1 f2 q ne k1 k2 e3 e4
      · cases last k2 e4
        exact far i _ _ k1 e3
    · cases last k1 e3
      rcases cut e2 with ⟨l2, k2⟩ | k2
      · rw [List.getElem?_append_left (by rw [hh.len]; exact l2)] at e4
        exact far j _ _ k2 e4
      · exact ne (k1.trans k2.symm)
theorem holds_cut {o : Option V} (hh : Holds (Δ ++ [sl]) s F H (σ ++ [o])) : Holds Δ s F H σ := by
  have hl : σ.length = Δ.length := by have := hh.len; simpa using this
  refine ⟨hl, fun i sl o' e1 e2 => ?_, fun i j ω1 ω2 f1 f2 q ne e1 e2 e3 => ?_⟩
  · have l1 := (List.getElem?_eq_some_iff.mp e1).1
    exact hh.at_ i sl o' (by rw [List.getElem?_append_left l1]; exact e1) (by rw [List.getElem?_append_left (by omega)]; exact e2)
  · have l1 := (List.getElem?_eq_some_iff.mp e1).1
    have l2 := (List.getElem?_eq_some_iff.mp e2).1
    have := hh.sep i j ω1 ω2 f1 f2 q ne (by rw [List.getElem?_append_left l1]; exact e1) (by rw [List.getElem?_append_left l2]; exact e2) (by rw [List.getElem?_append_left (by omega)]; exact e3)
    rw [List.getElem?_append_left (by omega)] at this
    exact this
theorem DC.callN {k : Nat} {f : Addr} {fd : FuncData} {ps : List Str} {p : HP fm.ps → Prop} {fv : HP fm.ps → R'} {g : S → HP fm.ps} {t : TA} (G : FnG X.prog X.w K X.mg X.base CX0 k f fd ps (SpOf fm p fv)) (hr : RoomG k X.A) (hm : X.mg x = some (.ref f)) (hk : PySem.W.keepIn K (.ref f) = true) (hb : Binds K fd ps [])
    (ha : DAn K X Δ (e :: es) ω m1 c1 Δ1 h as t) (har : Ar (Δ1 ++ [.ow ω h]) as fm.ps g) (hup : Up (Δ1 ++ [.ow ω h]) as fm.ps (fun s => fm.mv (fv (g s))) (Δ2 ++ [sl])) (hnd : (lent as).Nodup) (how : OwnAll (Δ1 ++ [.ow ω h]) (lent as)) (hl2 : ∀ j ∈ lent as, j ∈ l2 ∨ Δ1.length ≤ j) (hK : X.K = K := by rfl) (hg : Gl X x := by rfl) (hdb : (x == ("__debug__" : Str)) = false := by decide) (he : starEach (e :: es) X.env = (false, eval e X.env) :: starEach es X.env := by rfl) (hpl : (backTo pos (starEach es X.env)).any (·.1) = false := by rfl) :
    DC K X Δ (.Call (.Name x px) (e :: es) [] pos) fm (m1 ++ l2) (c1 ++ [fun s => p (g s)]) Δ2 (fun s => fv (g s)) (tCall (SpOf fm p fv) [] E0 t) := by
  subst hK
  obtain ⟨d1, pa, ra⟩ := ha
  have du := up_diff hup how
  have lens : Δ2.length = Δ1.length := by have := du.len; simpa using this
  have d2 : Diff l2 Δ1 Δ2 := ⟨lens, fun k nk => by
      by_cases hk : k < Δ1.length
      · have := du.out k fun z => (hl2 k z).elim nk fun z => by omega
        rw [List.getElem?_append_left (by omega), List.getElem?_append_left hk] at this
        exact this
      · rw [List.getElem?_eq_none (by omega), List.getElem?_eq_none (by omega)],
    fun k ω1 f1 e1 => by
      have l1 := (List.getElem?_eq_some_iff.mp e1).1
      obtain ⟨ω', f', h'⟩ := du.own k ω1 f1 (by rw [List.getElem?_append_left l1]; exact e1)
      rw [List.getElem?_append_left (by omega)] at h'
      exact ⟨_, _, h'⟩⟩
  refine ⟨d1.trans d2, pe_callg G hr hg hm hk hb pass0 pa hdb he hpl, fun s F H σ hh sm hc Q q => ?_⟩
  obtain ⟨k1, k2, _⟩ := conj_app hc
  refine ra s F H σ hh sm k1 _ fun vs p0 u0 F1 H1 g1 hh1 n0 n1 e1 o1 r1 => ?_
  show SpOf fm p fv (vs ++ []) H1 Q E0
  rw [List.append_nil]
  have hx := holds_ext (ω := ω) (h := h) hh1 n1 e1 o1 fun i ω' f' h' z => (d1.was hh h' z).2 n0
  obtain ⟨w1, w2⟩ := har.holds hx g1.fh r1 hnd
  refine ⟨F1, g s, w1, g1.fh, k2, fun v F2 H2 g2 ro mo => ?_⟩
  have g2' : Gr (MsAt (lent as) (σ ++ [some (.ref p0)])) F1 H1 F2 H2 := g2.mono fun a ⟨j, hj, e⟩ => har.muts 0 (us := []) rfl r1 j hj a e
  have hh2 := holds_cut (hup.holds (k := 0) (us := []) rfl r1 hnd mo how.all hx.len.symm (fun i sl o ni e1 e2 => by
    have r := hx.at_ i sl o e1 e2
    cases sl with
    | dead => trivial
    | fz τ f => obtain ⟨v, ev, rv⟩ := r; exact ⟨v, ev, τ.mono g2'.ff rv⟩
    | ow ω f =>
      obtain ⟨p1, u1, ev, n1, h1, o1⟩ := r
      subst ev
      have nl : ¬ MsAt (lent as) (σ ++ [some (.ref p0)]) p1 := fun ⟨j, hj, e3⟩ => by
        obtain ⟨ω', f', e4⟩ := how.all j hj
        exact hx.sep i j ω ω' f f' p1 (fun z => ni (z ▸ hj)) e1 e4 e2 e3
      refine ⟨p1, u1, rfl, ?_, g2'.keep _ _ h1 nl, ω.mono g2'.ff o1⟩
      cases y : F2 p1 with
      | none => rfl
      | some o' =>
        rcases g2'.fresh p1 o' y with z | z
        · rw [n1] at z; cases z
        · rw [h1] at z; cases z) hx.sep).1
  refine q v F2 H2 ⟨g1.ff.trans g2'.ff, g2'.fh, fun a o z => (g2'.fresh a o z).elim (g1.fresh a o) fun n => .inr (g1.dom a n), fun a o z nb => ?_, fun a z => g1.dom a (g2'.dom a z)⟩ hh2 (ro.dom fun a h => g1.dom a h)
  refine g2'.keep a o (g1.keep a o z fun z2 => nb (msAt_l a z2)) fun ⟨j, hj, ej⟩ => ?_
  rcases hl2 j hj with y | y
  · by_cases hjl : j < σ.length
    · rw [List.getElem?_append_left hjl] at ej
      exact nb ⟨j, List.mem_append_right _ y, ej⟩
    · rw [List.getElem?_append_right (by omega)] at ej
      have e0 : a = p0 := by
        cases q0 : j - σ.length with
        | zero => rw [q0] at ej; cases ej; rfl
        | succ m => rw [q0] at ej; cases ej
      rw [e0, n0] at z; cases z
  · rw [List.getElem?_append_right (by rw [hh1.len]; exact y)] at ej
    have e0 : a = p0 := by
      cases q0 : j - σ.length with
      | zero => rw [q0] at ej; cases ej; rfl
      | succ m => rw [q0] at ej; cases ej
    rw [e0, n0] at z; cases z
/-- a list of ints, compared with the script -/
theorem scr_of_list {F : Hp} {v : V} {xs : List Int} (r : (tList (tInt K)).rep F v xs) : (tScr K).rep F v xs := by
  obtain ⟨a, vs, e, q, pr, z⟩ := r
  have ev : ∀ {vs : List V} {xs : List Int}, Paired (fun v x => v = V.int x) vs xs → vs = xs.map V.int := by
    intro vs xs h
    induction h with
    | nil => rfl
    | cons r _ ih => rw [r, ih]; rfl
  exact ⟨a, e, by rw [← ev pr]; exact .inl (.inl q), z⟩
theorem DX.scrL {f : S → List Int} (h : DX K X Δ e (tList (tInt K)) ms cs Δ1 f ta) : DX K X Δ e (tScr K) ms cs Δ1 f ta :=
  ⟨h.1, h.2.1, fun s F H σ hh sm hc Q q => h.2.2 s F H σ hh sm hc Q fun v F1 H1 g hh1 r => q v F1 H1 g hh1 (scr_of_list r)⟩
/-- x.pop(e) -/
def eraseI {α : Type} (xs : List α) (i : Int) : List α := xs.eraseIdx (if 0 ≤ i then i.toNat else (i + xs.length).toNat)
theorem paired_erase {α β : Type} {R : α → β → Prop} : ∀ {xs : List α} {ys : List β} (i : Nat), Paired R xs ys → Paired R (xs.eraseIdx i) (ys.eraseIdx i)
  | _, _, _, .nil => .nil
  | _, _, 0, .cons _ t => t
  | _, _, i + 1, .cons q t => .cons q (paired_erase i t)
theorem ix_seq {α : Type} {d : α} {xs : List α} {i : Int} (h : IxOk xs i) : ∃ j, seqIndex? i xs.length = some j ∧ j = (if 0 ≤ i then i.toNat else (i + xs.length).toNat) ∧ xs[j]? = some (ixI d xs i) := by
  obtain ⟨h1, h2⟩ := h
  have hj : ∃ j : Nat, j = (if 0 ≤ i then i.toNat else (i + xs.length).toNat) := ⟨_, rfl⟩
  obtain ⟨j, hj⟩ := hj
  refine ⟨j, ?_, hj, ?_⟩
  · unfold seqIndex?
    by_cases h0 : 0 ≤ i
    · rw [if_pos h0] at hj
      simp only [show ¬ i < 0 by omega, if_false]
      rw [if_pos (by simp; omega), hj]
    · rw [if_neg h0] at hj
      simp only [show i < 0 by omega, if_true]
      rw [if_pos (by simp; omega), hj]
  · unfold ixI
    by_cases h0 : 0 ≤ i
    · rw [if_pos h0] at hj ⊢
      rw [List.getD_eq_getElem?_getD, ← hj, List.getElem?_eq_getElem (by omega)]; rfl
    · rw [if_neg h0] at hj ⊢
      rw [List.getD_eq_getElem?_getD, ← hj, List.getElem?_eq_getElem (by omega)]; rfl
theorem DX.popAt (d : τ.α) {f : S → List τ.α} {fe : S → Int} (he : DX K X Δ e (tInt K) ms c1 Δ1 fe ta) {f0 : S → List τ.α} (h0 : Δ[i]? = some (.ow (oList τ) f0)) (h : Δ1[i]? = some (.ow (oList τ) f)) (hN : X.N[i]? = some x := by rfl) (hv : Vis X.env.scope x := by first | exact Or.inl rfl | exact Or.inr (Or.inl rfl) | exact Or.inr (Or.inr rfl)) (hd : (x == ("__debug__" : Str)) = false := by decide)
    (hcd : (x == ("__classdict__" : Str)) = false := by decide) (hbase : attributeBase (.Name x px) "pop" X.env (eval (.Name x px) X.env) = eval (.Name x px) X.env := by rfl)
    (hfew : ((backTo pos (starEach [e] X.env)).all (fun x => !x.1) && (backToKw pos (keywordEach [] X.env)).all (fun x => x.1.isSome)
      && decide ([e].length + ([] : List Keyword).length + (if ([] : List Keyword).isEmpty then 0 else 1) < 30)) = true := by rfl)
    (hline : (apos.endLine == pos.line) = true := by rfl) (hs : starEach [e] X.env = (false, eval e X.env) :: starEach [] X.env := by rfl) (hplain : (backTo pos (starEach [] X.env)).any (·.1) = false := by rfl) (hK : X.K = K := by rfl) :
    DX K X Δ (.Call (.Attribute (.Name x px) "pop" apos) [e] [] pos) τ (ms ++ [i]) (c1 ++ [fun s => IxOk (f s) (fe s)]) (Δ1.set i (.ow (oList τ) fun s => eraseI (f s) (fe s))) (fun s => ixI d (f s) (fe s)) (tBM K "list" rPopAt (tVar i) (tCons ta tNil)) := by
  subst hK
  obtain ⟨d1, p, r⟩ := he
  refine ⟨d1.trans (diff_mut h), pe_bm PySem.F.plainAttrs_list PySem.F.slot_list_pop PySem.F.type_list_pop mt_popAt (pe_var hN hv hd hcd) (pa_cons p pa_nil hs) hbase hfew hline hs hplain, fun s F H σ hh sm hc Q q => ?_⟩
  obtain ⟨k1, k2, _⟩ := conj_app hc
  obtain ⟨p0, vs0, e1, _, e3, _⟩ := own_list hh h0
  have hl : tyV X.K "list" (.ref p0) H := .inl ⟨rfl, _, .inl (.inl e3)⟩
  refine ⟨.ref p0, e1, hl, r s F H σ hh sm k1 _ fun v F1 H1 g1 hh1 r1 => ?_⟩
  obtain ⟨p1, vs, f1, f2, f3, f4, f5⟩ := own_list hh1 h
  rw [e1] at f1; cases f1
  obtain ⟨j, j1, j2, j3⟩ := ix_seq (d := d) k2
  obtain ⟨y, y1, y2⟩ := paired_at f4 j3
  have hz : (sizeLine : Int) < 2 ^ 62 := by decide
  refine ⟨p0, vs, fe s, j, y, rfl, by rw [show v = .int (fe s) from r1], f3, by have := k2.1; omega, by have := k2.2; omega, by rw [f4.length]; exact j1, y1, ?_⟩
  have g2 := gr_mut (i := i) (u' := .lst (vs.eraseIdx j)) g1.fh f2 (by rw [f3]; exact fun z => nomatch z) e1
  refine q _ F1 _ ((g1.mono (msAt_l (m2 := [i]))).trans (g2.mono (msAt_r (m1 := ms)))) (hh1.mut h e1 ⟨_, rfl, ?_, ?_⟩) y2
  · unfold eraseI
    rw [← j2]
    exact paired_erase j f4
  · unfold eraseI
    exact Nat.le_trans (List.length_eraseIdx_le _ _) f5
end
end Dx

/-! Dx, part N: x[lo:hi] = e; effects behind and, or. -/
namespace Dx
open PySem PySem.Spec PyProof PyProof.Rows L2
section
variable {prog : Program} {w : World} {A : Around} {E : Value → Shared → Prop} {s : Shared}
/-- any bounds, step one, the items of another list -/
theorem put_cut {l b sl : Addr} {xs ys : Array Value} {n m : Nat} {vl vu : Value} {lo hi : Option Int} {a c : Nat} {Q : Unit → Shared → Prop} (e : s.heap.get? l = some { cls := .type "list", data := .seq xs n }) (e2 : s.heap.get? b = some { cls := .type "list", data := .seq ys m })
    (hne : l ≠ b) (hs : s.heap.IsSliceOf sl vl vu .none) (pl : IsPart vl lo) (pu : IsPart vu hi) (hb : sliceBounds lo hi none xs.size = ((a : Int), (c : Int), 1)) (hz : xs.size + ys.size ≤ sizeLine)
    (h : Q () { s with heap := s.heap.update l (Obj.mapSeq fun zs => zs.extract 0 a ++ ys ++ zs.extract (max a c) zs.size) }) : wpAny (model prog w) A (setItem (.ref l) (.ref sl) (.ref b)) Q E s := by
  have L1 : s.heap.IsList l xs := PySem.IsL.isList e; have L2 : s.heap.IsList b ys := PySem.IsL.isList e2
  obtain ⟨ob, o1, o2, o3⟩ := id hs
  have T1 : s.TypeIs (.ref sl) "slice" := ⟨ob, o1, o2⟩; have d1 : ¬ ((rawPart none == rawInt 0) = true) := Bool.false_ne_true
  have d2 : Builtin.List.listSameRef (.ref l) (.ref b) = false := by unfold Builtin.List.listSameRef; exact beq_eq_false_iff_ne.mpr hne
  have d3 : (max (a : Int) (c : Int)).toNat = max a c := by omega
  have d4 : ((fun zs : Array Value => zs.extract 0 a ++ ys ++ zs.extract (max a c) zs.size) xs).size ≤ sizeLine + 1 := by simp only [Array.size_append, Array.size_extract]; omega
  unfold setItem; try with_reducible refine wpAny_holding ?_
  first | (refine wpAny_bind (wpAny_pure ?_)) | skip
  refine wpAny_bind (wpAny_sequenceKey L1.typeIs (by decide) (wpAny_bind (wpAny_callSpecial?_slot (name := Str.ofString "__setitem__") L1.typeIs slot_list_setitem (wpAny_call_entry slot_list_setitem L1.typeIs entry_list_setitem ?_ (args_list_setitem _ _ _)))))
  show wpAny _ _ (Builtin.List.listSubscript? (.ref sl) >>= _) _ _ s
  refine wpAny_bind ?_; unfold Builtin.List.listSubscript?
  refine wpAny_bind (wpAny_specialOf T1 slice_no_index ?_); simp only [Option.isNone_none, if_true]
  refine wpAny_pure ?_; show wpAny _ _ (typeOf (.ref sl) >>= _) _ _ s
  refine wpAny_bind (wpAny_typeOf T1 ?_)
  first | (rw [if_neg (by decide)]) | (refine PySem.W.KFB.if_not (by decide) ?_)
  rw [listSliceParts_eq]; refine wpAny_bind (wpAny_bind (wpAny_field o1 o3 (x := .none) rfl (wpAny_bind (wpAny_listPart .none ?_))))
  rw [if_neg d1]; refine wpAny_bind (wpAny_field o1 o3 (x := vl) rfl (wpAny_bind (wpAny_listPart pl (wpAny_bind (wpAny_field o1 o3 (x := vu) rfl (wpAny_bind (wpAny_listPart pu (wpAny_pure ?_))))))))
  first | (simp only [d2, Bool.false_eq_true, if_false]) | (refine PySem.W.KFB.if_not d2 ?_) | (dsimp only; rw [if_neg (by rw [d2]; exact Bool.false_ne_true)])
  refine wpAny_bind (m := Builtin.List.listAllItems (.ref b) "must assign iterable to extended slice") ?_; unfold Builtin.List.listAllItems
  refine wpAny_bind (wpAny_typeOf L2.typeIs ?_)
  first | (refine PySem.W.KFB.if_so (by decide) ?_) | (rw [if_pos (by decide)]) | (simp only [beq_self_eq_true, Bool.true_or, if_true])
  unfold Builtin.List.listItems; refine wpAny_bind (wpAny_seqItems e2 rfl (wpAny_pure (wpAny_bind (wpAny_bind (wpAny_seqItems e rfl (wpAny_pure ?_))))))
  refine wpAny_bind (wpAny_of_eq ((sliceIndices_raw lo hi none xs.size (by simp)).trans (congrArg (pure : Int × Int × Int → Sem (Int × Int × Int)) hb)) ?_)
  show wpAny _ _ (if ((1 : Int) == 1) = true then _ else _) _ _ s
  rw [if_pos (by decide)]; refine wpAny_bind (wpAny_rule ?_)
  first | (simp only [notLongL hz, Bool.false_eq_true, if_false]) | (refine PySem.W.KFB.if_not (notLongL hz) ?_)
  first | (refine wpAny_bind (wpAny_pure ?_)) | skip
  show wpAny _ _ (updateSeq l (fun zs => zs.extract 0 ((a : Int)).toNat ++ ys ++ zs.extract (max (a : Int) (c : Int)).toNat zs.size) >>= _) _ _ s
  rw [d3, Int.toNat_natCast]; refine wpAny_bind (wpAny_updateSeq (hz := Nat.le_trans (Nat.le_add_right _ _) hz) (_hz' := d4) e rfl (wpAny_bind (wpAny_letGo ?_)))
  first | (exact wpAny_bind (wpAny_pure (wpAny_pure ⟨.none, rfl, wpAny_pure h⟩))) | (exact wpAny_pure ⟨.none, rfl, wpAny_pure h⟩)
end
/-- the list behind x[lo:hi] = ys -/
def putL {α : Type} (xs : List α) (lo hi : Option Int) (ys : List α) : List α := xs.take (HT.sIx xs.length 0 lo) ++ ys ++ xs.drop (max (HT.sIx xs.length 0 lo) (HT.sIx xs.length xs.length hi))
section
variable {X : Cx}
theorem put_list {pins : List (Addr × Obj)} {s : Shared} {σ : L2.St} {H : Hp} {l b sl : Addr} {xs ys : List V} {vl vu : Value} {lo hi : Option Int} {Q : Unit → Shared → Prop} (I : Inv X pins σ H s) (hH : H l = some (.lst xs)) (hB : H b = some (.lst ys)) (hne : l ≠ b)
    (hs : s.heap.IsSliceOf sl vl vu .none) (pl : IsPart vl lo) (pu : IsPart vu hi) (hz : xs.length + ys.length ≤ sizeLine) (h : ∀ s', Inv X pins σ (upd H l (.lst (putL xs lo hi ys))) s' → Q () s') : wpAny (model X.prog X.w) X.A (setItem (.ref l) (.ref sl) (.ref b)) Q X.xe s := by
  obtain ⟨z, its, n, r, hl, e⟩ := I.lstM hH; obtain ⟨z2, its2, n2, r2, hl2, e2⟩ := I.lstM hB
  obtain ⟨h1, h2, h3⟩ := slice_bounds lo hi its.toArray.size
  refine put_cut (lo := lo) (hi := hi) (a := HT.sIx its.toArray.size 0 lo) (c := HT.sIx its.toArray.size its.toArray.size hi) e e2 hne hs pl pu (by rw [← h1, ← h2, ← h3]) (by rw [List.size_toArray, List.size_toArray]; omega) (h _ ?_)
  have hn : its.toArray.size = xs.length := by rw [List.size_toArray]; exact hl.symm
  have gl : ∀ {a c : Nat}, (xs.take a ++ ys ++ xs.drop (max a c)).length ≤ sizeLine := fun {a c} => by rw [List.length_append, List.length_append, List.length_take, List.length_drop]; omega
  refine I.lset (its' := its.take (HT.sIx its.toArray.size 0 lo) ++ its2 ++ its.drop (max (HT.sIx its.toArray.size 0 lo) (HT.sIx its.toArray.size its.toArray.size hi))) (t' := s.toks) hH e ?_ ?_ ?_
  · exact splice_eq its its2 _ _
  · unfold putL
    rw [hn]
    exact Vals.append (Vals.append (r.take _) r2) (r.drop _)
  · exact gl
end
section
variable {X : Cx} {o : Expr} {lo hi : Option Expr} {to : TE} {tl th : TO} {p2 pos : Pos}
/-- x[lo:hi] as a target -/
def gCut (to : TE) (tl th : TO) : TG := fun v σ H Q => to σ H fun x H1 => tl σ H1 fun l H2 => th σ H2 fun u H3 => ∃ (a b : Addr) (xs ys : List V), x = .ref a ∧ v = .ref b ∧ a ≠ b ∧ H3 a = some (.lst xs) ∧ H3 b = some (.lst ys) ∧ xs.length + ys.length ≤ sizeLine ∧ Q σ (upd H3 a (.lst (putL xs l u ys)))
theorem pg_cut (ho : PE X o to) (hl : PO X lo tl) (hu : PO X hi th) (ha : ∀ v, assign (.Subscript o (.Slice lo hi none p2) pos) X.env v = (do
      let x ← holding [v] (eval o X.env)
      let y ← holding [v, x] (eval (.Slice lo hi none p2) X.env)
      standAt pos; holding [v, x, y] (setItem x y v); release [y, v, x] [])) : PG X (.Subscript o (.Slice lo hi none p2) pos) (gCut to tl th) := by
  refine ⟨fun pins s σ H v u Q I r h => ?_⟩
  rw [ha]; refine wpAny_bind (wpAny_holding (thn (ho.run pins s σ H _ I h) fun ov s1 ⟨x, H1, I1, r1, q1⟩ => wpAny_bind (wpAny_holding (wpAny_Slice ?_))))
  refine thn (hl.run pins s1 σ H1 _ I1 q1) fun vl s2 ⟨l, H2, I2, pl, q2⟩ => thn (hu.run pins s2 σ H2 _ I2 q2) fun vu s3 ⟨u', H3, I3, pu, q3⟩ => ?_
  obtain ⟨a, b, xs, ys, rfl, rfl, ne, e1, e2, hz, q⟩ := q3
  cases r1; cases r
  rw [evalPart_none]; refine wpAny_pure ?_
  have I4 : Inv X pins σ H3 { s3 with heap := s3.heap.push { cls := .type "slice", data := .fields #[vl, vu, .none] } } := I3.kept (t' := s3.toks) fun b ob q => Heap.get?_push_of_some _ q
  refine wpAny_bind (wpAny_standAt (wpAny_bind (wpAny_holding (put_list I4 e1 e2 ne (Heap.IsSliceOf.new ..) pl pu hz fun s4 I5 => ?_))))
  exact wpAny_release ⟨σ, _, I5, q⟩
end
section
variable {K : PySem.W.Frag} {X : Cx} {S : Type} {Δ Δ1 Δ2 Δ3 : Ctx K S} {e a b c : Expr} {lo hi : Option Expr} {pos p' px p2 : Pos} {τ : Ty K} {ω : OTy K} {mus ms m1 m2 m3 : List Nat} {c1 c2 c3 cs : List (S → Prop)} {ta tb : TE} {tx ty : TT} {tlo thi : TO} {i : Nat} {x : Str} {rest : List Expr}
/-- x[lo:hi] = e, e a new list -/
theorem DS.cut {f fe : S → List τ.α} {flo fhi : S → Option Int} (he : DO K X Δ e (oList τ) ms c1 Δ1 fe ta) (h1 : DPo K X Δ1 lo [] c2 Δ1 flo tlo) (h2 : DPo K X Δ1 hi [] c3 Δ1 fhi thi) (hm : OwnAll Δ ms) (h : Δ1[i]? = some (.ow (oList τ) f)) (hN : X.N[i]? = some x := by rfl) (hv : Vis X.env.scope x := by first | exact Or.inl rfl | exact Or.inr (Or.inl rfl) | exact Or.inr (Or.inr rfl)) (hd : (x == ("__debug__" : Str)) = false := by decide)
    (hcd : (x == ("__classdict__" : Str)) = false := by decide) (ha : ∀ v, assign (.Subscript (.Name x px) (.Slice lo hi none p') p2) X.env v = (do
      let x1 ← holding [v] (eval (.Name x px) X.env)
      let y1 ← holding [v, x1] (eval (.Slice lo hi none p') X.env)
      standAt p2; holding [v, x1, y1] (setItem x1 y1 v); release [y1, v, x1] []) := by intro _; rfl) (hs : swapsWithSole [.Subscript (.Name x px) (.Slice lo hi none p') p2] e pos.line X.env = pure false := by rfl) (hw : swappedStores [.Subscript (.Name x px) (.Slice lo hi none p') p2] e X.env = pure none := by rfl)
    (hp1 : (assignEach [.Subscript (.Name x px) (.Slice lo hi none p') p2] X.env).map (·.2) = [assign (.Subscript (.Name x px) (.Slice lo hi none p') p2) X.env] := by rfl) :
    DS K X mus Δ (.Assign [.Subscript (.Name x px) (.Slice lo hi none p') p2] e pos) (c1 ++ (c2 ++ (c3 ++ [fun s => (f s).length + (fe s).length ≤ sizeLine]))) (Δ1.set i (.ow (oList τ) fun s => putL (f s) (flo s) (fhi s) (fe s))) := by
  obtain ⟨d1, p, r⟩ := he
  obtain ⟨_, pl, rl⟩ := h1
  obtain ⟨_, ph, rh⟩ := h2
  refine ⟨_, ps_asg p (pg_cut (pe_var hN hv hd hcd) pl ph ha) hs hw hp1, fun s F H σ hh sm hc D q => ?_⟩
  obtain ⟨k1, k2⟩ := conj_app hc
  obtain ⟨k2, k3⟩ := conj_app k2
  obtain ⟨k3, k4, _⟩ := conj_app k3
  refine r s F H σ hh sm k1 _ fun b u F1 H1 g1 hh1 n1 n2 e1 ⟨ys, u1, u2, u3⟩ => ?_
  subst u1
  obtain ⟨pp, vs, f1, f2, f3, f4, f5⟩ := own_list hh1 h
  have ne : pp ≠ b := fun z => by
    subst z
    obtain ⟨ω', f', h'⟩ := d1.own i _ _ h
    obtain ⟨q1, q2, w1, _, w3, _⟩ := hh.at_ i _ _ h' f1
    cases w1
    rw [n1] at w3; cases w3
  refine ⟨.ref pp, f1, rl s F1 H1 σ hh1 g1.fh k2 _ fun F2 H2 g2 hh2 => rh s F2 H2 σ hh2 g2.fh k3 _ fun F3 H3 g3 hh3 => ?_⟩
  rw [msAt_nil] at g2 g3
  have g23 := g2.trans g3
  obtain ⟨pp', vs', f1', f2', f3', f4', f5'⟩ := own_list hh3 h
  rw [f1] at f1'; cases f1'
  have ys3 := paired_mono (fun a b r => τ.mono g23.ff r) u2
  refine ⟨pp, b, vs', ys, rfl, rfl, ne, f3', g23.same _ _ e1, by rw [f4'.length, u2.length]; exact k4, ?_⟩
  have gs : GrS mus Δ σ Δ1 σ F H F1 H1 := gs0 hm d1 hh g1
  have gs2 : GrS mus Δ1 σ Δ1 σ F1 H1 F3 H3 := gs0 (ms := []) trivial Diff.refl hh1 (by rw [msAt_nil]; exact g23)
  have gs3 : GrS mus Δ1 σ (Δ1.set i (.ow (oList τ) fun s => putL (f s) (flo s) (fhi s) (fe s))) σ F3 H3 F3 (upd H3 pp (.lst (putL vs' (flo s) (fhi s) ys))) := gs0 (ms := [i]) ⟨⟨_, _, h⟩, trivial⟩ (diff_mut h) hh3 (gr_mut g3.fh f2' (by rw [f3']; exact fun z => nomatch z) f1)
  refine q σ F3 _ ((gs.trans gs2).trans gs3) (hh3.mut h f1 ⟨_, rfl, ?_, ?_⟩)
  · unfold putL
    rw [f4'.length]
    exact paired_app (paired_app (paired_take _ f4') ys3) (paired_drop _ f4')
  · unfold putL
    rw [List.length_append, List.length_append, List.length_take, List.length_drop]
    have := k4
    omega
/-! #### effects behind and, or -/
theorem holds_sel {f : S → Bool} {f1 f2 g : S → ω.τ.α} {s : S} {F H : Hp} {σ : L2.St} (hl : i < Δ1.length) (e : (if f s = true then f1 s else f2 s) = g s) (hh : Holds (Δ1.set i (.ow ω g)) s F H σ) : Holds (Δ1.set i (.ow ω fun s => if f s = true then f1 s else f2 s)) s F H σ := by
  refine ⟨by rw [List.length_set, hh.len, List.length_set], fun j sl o e1 e2 => ?_, fun j k ω1 ω2 g1 g2 p n e1 e2 e3 => ?_⟩
  · rcases get_set1 e1 with ⟨rfl, rfl, _⟩ | ⟨n, e1⟩
    · obtain ⟨p, u, w1, w2, w3, w4⟩ := hh.at_ i _ o (List.getElem?_set_self hl) e2
      exact ⟨p, u, w1, w2, w3, by show ω.own F u (if f s = true then f1 s else f2 s); rw [e]; exact w4⟩
    · exact hh.at_ j sl o (by rw [List.getElem?_set_ne n]; exact e1) e2
  · have up : ∀ {j : Nat} {ω1 : OTy K} {g1 : S → ω1.τ.α}, (Δ1.set i (.ow ω fun s => if f s = true then f1 s else f2 s))[j]? = some (.ow ω1 g1) → ∃ (ω1' : OTy K) (g1' : S → ω1'.τ.α), (Δ1.set i (.ow ω g))[j]? = some (.ow ω1' g1') := fun {j ω1 g1} e => by
      rcases get_set1 e with ⟨rfl, _, _⟩ | ⟨n, e⟩
      · exact ⟨_, _, List.getElem?_set_self hl⟩
      · exact ⟨_, _, by rw [List.getElem?_set_ne n]; exact e⟩
    obtain ⟨_, _, q1⟩ := up e1
    obtain ⟨_, _, q2⟩ := up e2
    exact hh.sep j k _ _ _ _ p n q1 q2 e3
theorem set_self1 {α : Type 1} : ∀ {xs : List α} {i : Nat} {x : α}, xs[i]? = some x → xs.set i x = xs
  | _ :: _, 0, _, h => by cases h; rfl
  | _ :: xs, i + 1, _, h => by
    show _ :: xs.set i _ = _
    rw [set_self1 (xs := xs) (by simpa using h)]
theorem ms_one {m : List Nat} {σ : L2.St} (h : ∀ k ∈ m, k = i) : ∀ a, MsAt m σ a → MsAt [i] σ a := fun a ⟨k, hk, e⟩ => ⟨i, List.mem_singleton.mpr rfl, h k hk ▸ e⟩
/-- a and b, b changes the slot i -/
theorem DW.andE (i : Nat) {f g : S → Bool} {f0 f1 : S → ω.τ.α} (ha : DT K X Δ a m1 c1 Δ1 f tx) (hb : DW K X Δ1 (.BoolOp .And (b :: rest) pos) m2 c2 Δ2 g ty) (h0 : Δ1[i]? = some (.ow ω f0)) (e2 : Δ2 = Δ1.set i (.ow ω f1)) (h2 : ∀ k ∈ m2, k = i) :
    DW K X Δ (.BoolOp .And (a :: b :: rest) pos) (m1 ++ [i]) (c1 ++ guardT f c2) (Δ1.set i (.ow ω fun s => if f s = true then f1 s else f0 s)) (fun s => f s && g s) (tAnd tx ty) := by
  subst e2
  obtain ⟨d1, p1, r1⟩ := ha
  obtain ⟨d2, p2, r2⟩ := hb
  have hl : i < Δ1.length := (List.getElem?_eq_some_iff.mp h0).1
  refine ⟨d1.trans (diff_mut h0), pw_and p1 p2, fun s F H σ hh sm hc Q q => ?_⟩
  obtain ⟨k1, k2⟩ := conj_app hc
  refine r1 s F H σ hh sm k1 _ fun F1 H1 g1 hh1 => ?_
  cases e : f s with
  | false =>
    have := q F1 H1 (g1.mono (msAt_l (m2 := [i]))) (holds_sel (f := f) (f1 := f1) (f2 := f0) (g := f0) hl (by rw [e]; rfl) (by rw [set_self1 h0]; exact hh1))
    simp only [e, Bool.false_and] at this
    exact this
  | true =>
    show ty σ H1 Q
    refine r2 s F1 H1 σ hh1 g1.fh (guardT_conj e k2) Q fun F2 H2 g2 hh2 => ?_
    have := q F2 H2 ((g1.mono (msAt_l (m2 := [i]))).trans ((g2.mono (ms_one h2)).mono (msAt_r (m1 := m1)))) (holds_sel (f := f) (f1 := f1) (f2 := f0) (g := f1) hl (by rw [e]; rfl) hh2)
    simp only [e, Bool.true_and] at this
    exact this
theorem DW.orE (i : Nat) {f g : S → Bool} {f0 f1 : S → ω.τ.α} (ha : DT K X Δ a m1 c1 Δ1 f tx) (hb : DW K X Δ1 (.BoolOp .Or (b :: rest) pos) m2 c2 Δ2 g ty) (h0 : Δ1[i]? = some (.ow ω f0)) (e2 : Δ2 = Δ1.set i (.ow ω f1)) (h2 : ∀ k ∈ m2, k = i) :
    DW K X Δ (.BoolOp .Or (a :: b :: rest) pos) (m1 ++ [i]) (c1 ++ guardF f c2) (Δ1.set i (.ow ω fun s => if f s = true then f0 s else f1 s)) (fun s => f s || g s) (tOr tx ty) := by
  subst e2
  obtain ⟨d1, p1, r1⟩ := ha
  obtain ⟨d2, p2, r2⟩ := hb
  have hl : i < Δ1.length := (List.getElem?_eq_some_iff.mp h0).1
  refine ⟨d1.trans (diff_mut h0), pw_or p1 p2, fun s F H σ hh sm hc Q q => ?_⟩
  obtain ⟨k1, k2⟩ := conj_app hc
  refine r1 s F H σ hh sm k1 _ fun F1 H1 g1 hh1 => ?_
  cases e : f s with
  | true =>
    have := q F1 H1 (g1.mono (msAt_l (m2 := [i]))) (holds_sel (f := f) (f1 := f0) (f2 := f1) (g := f0) hl (by rw [e]; rfl) (by rw [set_self1 h0]; exact hh1))
    simp only [e, Bool.true_or] at this
    exact this
  | false =>
    show ty σ H1 Q
    refine r2 s F1 H1 σ hh1 g1.fh (guardF_conj e k2) Q fun F2 H2 g2 hh2 => ?_
    have := q F2 H2 ((g1.mono (msAt_l (m2 := [i]))).trans ((g2.mono (ms_one h2)).mono (msAt_r (m1 := m1)))) (holds_sel (f := f) (f1 := f0) (f2 := f1) (g := f1) hl (by rw [e]; rfl) hh2)
    simp only [e, Bool.false_or] at this
    exact this
end
end Dx

/-! Dx, part O: extend, reverse, clear, count, in, sum, sorted, list, slices with a step, calls by keyword. -/
namespace Dx
open PySem PySem.Spec PyProof PyProof.Rows L2
section
variable {K : PySem.W.Frag} {X : Cx} {S R R' : Type} {Δ Δ1 Δ2 Δ3 : Ctx K S} {e a b : Expr} {es : List Expr} {pos p' px apos : Pos} {τ τ1 τ2 L L1 L2' : Ty K} {ω : OTy K} {ms m1 m2 m3 : List Nat} {c1 c2 c3 cs : List (S → Prop)} {ta tb : TE} {tl : TA} {i j : Nat} {x : Str} {fm : Fm K R'}
/-- x.extend(e) -/
theorem DX.extend {f fe : S → List τ.α} (he : DX K X Δ e (tList τ) ms c1 Δ1 fe ta) {f0 : S → List τ.α} (h0 : Δ[i]? = some (.ow (oList τ) f0)) (h : Δ1[i]? = some (.ow (oList τ) f)) (hN : X.N[i]? = some x := by rfl) (hv : Vis X.env.scope x := by first | exact Or.inl rfl | exact Or.inr (Or.inl rfl) | exact Or.inr (Or.inr rfl)) (hd : (x == ("__debug__" : Str)) = false := by decide)
    (hcd : (x == ("__classdict__" : Str)) = false := by decide) (hbase : attributeBase (.Name x px) "extend" X.env (eval (.Name x px) X.env) = eval (.Name x px) X.env := by rfl)
    (hfew : ((backTo pos (starEach [e] X.env)).all (fun x => !x.1) && (backToKw pos (keywordEach [] X.env)).all (fun x => x.1.isSome)
      && decide ([e].length + ([] : List Keyword).length + (if ([] : List Keyword).isEmpty then 0 else 1) < 30)) = true := by rfl)
    (hline : (apos.endLine == pos.line) = true := by rfl) (hs : starEach [e] X.env = (false, eval e X.env) :: starEach [] X.env := by rfl) (hplain : (backTo pos (starEach [] X.env)).any (·.1) = false := by rfl) (hK : X.K = K := by rfl) :
    DX K X Δ (.Call (.Attribute (.Name x px) "extend" apos) [e] [] pos) (tNone K) (ms ++ [i]) (c1 ++ [fun s => (f s).length + (fe s).length ≤ sizeLine]) (Δ1.set i (.ow (oList τ) fun s => f s ++ fe s)) (fun _ => ()) (tBM K "list" rExtend (tVar i) (tCons ta tNil)) := by
  subst hK
  obtain ⟨d1, p, r⟩ := he
  refine ⟨d1.trans (diff_mut h), pe_bm PySem.F.plainAttrs_list PySem.F.slot_list_extend PySem.F.type_list_extend mt_extend (pe_var hN hv hd hcd) (pa_cons p pa_nil hs) hbase hfew hline hs hplain, fun s F H σ hh sm hc Q q => ?_⟩
  obtain ⟨k1, k2, _⟩ := conj_app hc
  obtain ⟨p0, vs0, e1, _, e3, _⟩ := own_list hh h0
  have hl : tyV X.K "list" (.ref p0) H := .inl ⟨rfl, _, .inl (.inl e3)⟩
  refine ⟨.ref p0, e1, hl, r s F H σ hh sm k1 _ fun v F1 H1 g1 hh1 ⟨b1, ys, ev, eb, w1, w2⟩ => ?_⟩
  obtain ⟨p1, vs, f1, f2, f3, f4, f5⟩ := own_list hh1 h
  rw [e1] at f1; cases f1
  refine ⟨p0, b1, vs, ys, rfl, by rw [ev], f3, g1.fh _ _ eb, by rw [f4.length, w1.length]; exact k2, ?_⟩
  have g2 := gr_mut (i := i) (u' := .lst (vs ++ ys)) g1.fh f2 (by rw [f3]; exact fun z => nomatch z) e1
  refine q _ F1 _ ((g1.mono (msAt_l (m2 := [i]))).trans (g2.mono (msAt_r (m1 := ms)))) (hh1.mut h e1 ⟨_, rfl, paired_app f4 w1, ?_⟩) rfl
  rw [List.length_append]
  exact k2
theorem paired_rev {α β : Type} {R : α → β → Prop} : ∀ {xs : List α} {ys : List β}, Paired R xs ys → Paired R xs.reverse ys.reverse
  | _, _, .nil => .nil
  | _, _, .cons r t => by
    rw [List.reverse_cons, List.reverse_cons]
    exact paired_app (paired_rev t) (.cons r .nil)
/-- x.reverse() -/
theorem DX.reverse {f : S → List τ.α} (h : Δ[i]? = some (.ow (oList τ) f)) (hN : X.N[i]? = some x := by rfl) (hv : Vis X.env.scope x := by first | exact Or.inl rfl | exact Or.inr (Or.inl rfl) | exact Or.inr (Or.inr rfl)) (hd : (x == ("__debug__" : Str)) = false := by decide)
    (hcd : (x == ("__classdict__" : Str)) = false := by decide) (hbase : attributeBase (.Name x px) "reverse" X.env (eval (.Name x px) X.env) = eval (.Name x px) X.env := by rfl)
    (hline : (apos.endLine == pos.line) = true := by rfl) (hK : X.K = K := by rfl) :
    DX K X Δ (.Call (.Attribute (.Name x px) "reverse" apos) [] [] pos) (tNone K) [i] [] (Δ.set i (.ow (oList τ) fun s => (f s).reverse)) (fun _ => ()) (tBM0 K "list" rReverse (tVar i)) := by
  subst hK
  refine ⟨diff_mut h, pe_bm0 PySem.F.plainAttrs_list PySem.F.slot_list_reverse PySem.F.type_list_reverse mt_reverse (pe_var hN hv hd hcd) hbase hline, fun s F H σ hh sm hc Q q => ?_⟩
  obtain ⟨p0, vs, e1, e2, e3, e4, e5⟩ := own_list hh h
  have hl : tyV X.K "list" (.ref p0) H := .inl ⟨rfl, _, .inl (.inl e3)⟩
  refine ⟨.ref p0, e1, hl, p0, vs, rfl, rfl, e3, ?_⟩
  have g2 := gr_mut (i := i) (u' := .lst vs.reverse) sm e2 (by rw [e3]; exact fun z => nomatch z) e1
  refine q _ F _ g2 (hh.mut h e1 ⟨_, rfl, paired_rev e4, ?_⟩) rfl
  rw [List.length_reverse]
  exact e5
/-- x.clear() -/
theorem DX.clear {f : S → List τ.α} (h : Δ[i]? = some (.ow (oList τ) f)) (hN : X.N[i]? = some x := by rfl) (hv : Vis X.env.scope x := by first | exact Or.inl rfl | exact Or.inr (Or.inl rfl) | exact Or.inr (Or.inr rfl)) (hd : (x == ("__debug__" : Str)) = false := by decide)
    (hcd : (x == ("__classdict__" : Str)) = false := by decide) (hbase : attributeBase (.Name x px) "clear" X.env (eval (.Name x px) X.env) = eval (.Name x px) X.env := by rfl)
    (hline : (apos.endLine == pos.line) = true := by rfl) (hK : X.K = K := by rfl) :
    DX K X Δ (.Call (.Attribute (.Name x px) "clear" apos) [] [] pos) (tNone K) [i] [] (Δ.set i (.ow (oList τ) fun _ => [])) (fun _ => ()) (tBM0 K "list" rClear (tVar i)) := by
  subst hK
  refine ⟨diff_mut h, pe_bm0 PySem.F.plainAttrs_list PySem.F.slot_list_clear PySem.F.type_list_clear mt_clear (pe_var hN hv hd hcd) hbase hline, fun s F H σ hh sm hc Q q => ?_⟩
  obtain ⟨p0, vs, e1, e2, e3, e4, e5⟩ := own_list hh h
  have hl : tyV X.K "list" (.ref p0) H := .inl ⟨rfl, _, .inl (.inl e3)⟩
  refine ⟨.ref p0, e1, hl, p0, vs, rfl, rfl, e3, ?_⟩
  have g2 := gr_mut (i := i) (u' := .lst []) sm e2 (by rw [e3]; exact fun z => nomatch z) e1
  exact q _ F _ g2 (hh.mut h e1 ⟨[], rfl, .nil, Nat.zero_le _⟩) rfl
theorem paired_ints : ∀ {vs : List V} {xs : List Int}, Paired (fun v x => v = V.int x) vs xs → vs = xs.map V.int
  | _, _, .nil => rfl
  | _, _, .cons r t => by rw [r, paired_ints t]; rfl
theorem paired_intsR : ∀ xs : List Int, Paired (fun v x => v = V.int x) (xs.map V.int) xs
  | [] => .nil
  | x :: xs => .cons rfl (paired_intsR xs)
/-- sum, max, min of a list of ints -/
theorem DX.sum {to : L.α → List Int} {f : S → L.α} (hl : LL L (tInt K) to) (hm : X.mg "sum" = none) (he : DX K X Δ e L ms c1 Δ1 f ta) (hK : X.K = K := by rfl) (hcm : X.calm = true := by rfl) (hg : Gl X "sum" := by rfl) (hs : starEach [e] X.env = (false, eval e X.env) :: starEach [] X.env := by rfl) (hpl : (backTo pos (starEach [] X.env)).any (·.1) = false := by rfl) :
    DX K X Δ (.Call (.Name "sum" px) [e] [] pos) (tInt K) ms (c1 ++ []) Δ1 (fun s => (to (f s)).sum) (tCB (rSum K) (tCons ta tNil)) := by
  subst hK
  exact DX.call1 (τ1 := tInt X.K) (cc := []) (g := fun x => (to x).sum) (cr_sum hcm) (fun v x F H sm r _ Q q => by
    obtain ⟨a, vs, ev, sq, pr, _⟩ := hl r
    have e := paired_ints pr
    subst e
    exact ⟨a, to x, by rw [ev], sm.seq sq, q _ F H (Gr.refl sm) rfl⟩) hm (by decide +kernel) he hg (by decide) (by decide) hs hpl
def maxL (xs : List Int) : Int := xs.foldl max (xs.headD 0)
def minL (xs : List Int) : Int := xs.foldl min (xs.headD 0)
theorem foldl_max : ∀ (xs : List Int) (a : Int), a ≤ xs.foldl max a ∧ (∀ y ∈ xs, y ≤ xs.foldl max a) ∧ (xs.foldl max a = a ∨ xs.foldl max a ∈ xs)
  | [], a => ⟨Int.le_refl _, fun _ h => absurd h List.not_mem_nil, Or.inl rfl⟩
  | x :: xs, a => by
    obtain ⟨h1, h2, h3⟩ := foldl_max xs (max a x)
    refine ⟨by rw [List.foldl_cons]; omega, fun y hy => ?_, ?_⟩
    · rw [List.foldl_cons]
      rcases List.mem_cons.mp hy with rfl | hy
      · omega
      · exact h2 y hy
    · rw [List.foldl_cons]
      rcases h3 with h3 | h3
      · rw [h3]
        by_cases hx : a ≤ x
        · right; rw [Int.max_eq_right hx]; exact List.mem_cons_self
        · left; omega
      · exact .inr (List.mem_cons_of_mem _ h3)
theorem foldl_min : ∀ (xs : List Int) (a : Int), xs.foldl min a ≤ a ∧ (∀ y ∈ xs, xs.foldl min a ≤ y) ∧ (xs.foldl min a = a ∨ xs.foldl min a ∈ xs)
  | [], a => ⟨Int.le_refl _, fun _ h => absurd h List.not_mem_nil, Or.inl rfl⟩
  | x :: xs, a => by
    obtain ⟨h1, h2, h3⟩ := foldl_min xs (min a x)
    refine ⟨by rw [List.foldl_cons]; omega, fun y hy => ?_, ?_⟩
    · rw [List.foldl_cons]
      rcases List.mem_cons.mp hy with rfl | hy
      · omega
      · exact h2 y hy
    · rw [List.foldl_cons]
      rcases h3 with h3 | h3
      · rw [h3]
        by_cases hx : x ≤ a
        · right; rw [Int.min_eq_right hx]; exact List.mem_cons_self
        · left; omega
      · exact .inr (List.mem_cons_of_mem _ h3)
theorem maxL_mem {xs : List Int} (h : xs ≠ []) : maxL xs ∈ xs ∧ ∀ y ∈ xs, y ≤ maxL xs := by
  cases xs with
  | nil => exact absurd rfl h
  | cons x xs =>
    obtain ⟨h1, h2, h3⟩ := foldl_max (x :: xs) x
    refine ⟨?_, h2⟩
    rcases h3 with h3 | h3
    · unfold maxL; rw [List.headD_cons, h3]; exact List.mem_cons_self
    · exact h3
theorem minL_mem {xs : List Int} (h : xs ≠ []) : minL xs ∈ xs ∧ ∀ y ∈ xs, minL xs ≤ y := by
  cases xs with
  | nil => exact absurd rfl h
  | cons x xs =>
    obtain ⟨h1, h2, h3⟩ := foldl_min (x :: xs) x
    refine ⟨?_, h2⟩
    rcases h3 with h3 | h3
    · unfold minL; rw [List.headD_cons, h3]; exact List.mem_cons_self
    · exact h3
theorem DX.maxL {to : L.α → List Int} {f : S → L.α} (hl : LL L (tInt K) to) (hm : X.mg "max" = none) (he : DX K X Δ e L ms c1 Δ1 f ta) (hK : X.K = K := by rfl) (hcm : X.calm = true := by rfl) (hg : Gl X "max" := by rfl) (hs : starEach [e] X.env = (false, eval e X.env) :: starEach [] X.env := by rfl) (hpl : (backTo pos (starEach [] X.env)).any (·.1) = false := by rfl) :
    DX K X Δ (.Call (.Name "max" px) [e] [] pos) (tInt K) ms (c1 ++ [fun s => to (f s) ≠ []]) Δ1 (fun s => Dx.maxL (to (f s))) (tCB (rMax K) (tCons ta tNil)) := by
  subst hK
  exact DX.call1 (τ1 := tInt X.K) (cc := [fun x => to x ≠ []]) (g := fun x => Dx.maxL (to x)) (cr_max hcm) (fun v x F H sm r hc Q q => by
    obtain ⟨a, vs, ev, sq, pr, _⟩ := hl r
    have e := paired_ints pr
    subst e
    have hne : to x ≠ [] := hc.1
    obtain ⟨w1, w2⟩ := maxL_mem hne
    refine ⟨a, to x, by rw [ev], sm.seq sq, List.length_pos_iff.mpr hne, fun m h1 h2 => q _ F H (Gr.refl sm) ?_⟩
    have := h2 _ w1
    have := w2 _ h1
    exact congrArg V.int (show m = Dx.maxL (to x) by omega)) hm (by decide +kernel) he hg (by decide) (by decide) hs hpl
theorem DX.minL {to : L.α → List Int} {f : S → L.α} (hl : LL L (tInt K) to) (hm : X.mg "min" = none) (he : DX K X Δ e L ms c1 Δ1 f ta) (hK : X.K = K := by rfl) (hcm : X.calm = true := by rfl) (hg : Gl X "min" := by rfl) (hs : starEach [e] X.env = (false, eval e X.env) :: starEach [] X.env := by rfl) (hpl : (backTo pos (starEach [] X.env)).any (·.1) = false := by rfl) :
    DX K X Δ (.Call (.Name "min" px) [e] [] pos) (tInt K) ms (c1 ++ [fun s => to (f s) ≠ []]) Δ1 (fun s => Dx.minL (to (f s))) (tCB (rMin K) (tCons ta tNil)) := by
  subst hK
  exact DX.call1 (τ1 := tInt X.K) (cc := [fun x => to x ≠ []]) (g := fun x => Dx.minL (to x)) (cr_min hcm) (fun v x F H sm r hc Q q => by
    obtain ⟨a, vs, ev, sq, pr, _⟩ := hl r
    have e := paired_ints pr
    subst e
    have hne : to x ≠ [] := hc.1
    obtain ⟨w1, w2⟩ := minL_mem hne
    refine ⟨a, to x, by rw [ev], sm.seq sq, List.length_pos_iff.mpr hne, fun m h1 h2 => q _ F H (Gr.refl sm) ?_⟩
    have := h2 _ w1
    have := w2 _ h1
    exact congrArg V.int (show m = Dx.minL (to x) by omega)) hm (by decide +kernel) he hg (by decide) (by decide) hs hpl
/-! #### new lists from calls -/
theorem DO.call1 {r : List V → Hp → VK → Prop} {f : S → τ.α} {g : τ.α → ω.τ.α} (hr : ∀ v x F H, Same F H → τ.rep F v x → ∀ Q : VK, (∀ p u, H p = none → ω.own F u (g x) → Q (.ref p) (upd H p u)) → r [v] H Q) (he : DX K X Δ e τ ms c1 Δ1 f ta)
    (hp : PA X [e] (tCons ta tNil) → PE X (.Call (.Name x px) [e] [] pos) (tCB r (tCons ta tNil))) (hs : starEach [e] X.env = (false, eval e X.env) :: starEach [] X.env := by rfl) :
    DO K X Δ (.Call (.Name x px) [e] [] pos) ω ms c1 Δ1 (fun s => g (f s)) (tCB r (tCons ta tNil)) := by
  obtain ⟨d1, p, q1⟩ := he
  refine ⟨d1, hp (pa_cons p pa_nil hs), fun s F H σ hh sm hc Q q => ?_⟩
  refine q1 s F H σ hh sm hc _ fun v F1 H1 g1 hh1 r1 => hr v (f s) F1 H1 g1.fh r1 Q fun p u n o => ?_
  obtain ⟨g3, fn, e3⟩ := own_of_new g1.fh n o
  exact q p u F1 _ (g1.trans g3.of0) (hh1.grow g3) (g1.dom p n) fn e3 o
def sortI (xs : List Int) : List Int := xs.mergeSort (fun a b => decide (a ≤ b))
theorem sortI_perm (xs : List Int) : (sortI xs).Perm xs := List.mergeSort_perm _ _
theorem sortI_pw (xs : List Int) : (sortI xs).Pairwise (· ≤ ·) := by
  have h := List.pairwise_mergeSort (le := fun (a b : Int) => decide (a ≤ b)) (by intro a b c h1 h2; simp at *; omega) (by intro a b; simp; omega) xs
  exact h.imp fun h => by simpa using h
theorem sort_unique : ∀ {xs ys : List Int}, xs.Perm ys → xs.Pairwise (· ≤ ·) → ys.Pairwise (· ≤ ·) → xs = ys := fun p h1 h2 =>
  p.eq_of_pairwise (fun a b _ _ h h' => Int.le_antisymm h h') h1 h2
/-- sorted(e), ints -/
theorem DO.sorted {to : L.α → List Int} {f : S → L.α} (hl : LL L (tInt K) to) (hm : X.mg "sorted" = none) (he : DX K X Δ e L ms c1 Δ1 f ta) (hK : X.K = K := by rfl) (hg : Gl X "sorted" := by rfl) (hs : starEach [e] X.env = (false, eval e X.env) :: starEach [] X.env := by rfl) (hpl : (backTo pos (starEach [] X.env)).any (·.1) = false := by rfl) :
    DO K X Δ (.Call (.Name "sorted" px) [e] [] pos) (oList (tInt K)) ms c1 Δ1 (fun s => sortI (to (f s))) (tCB (rSortedI K) (tCons ta tNil)) := by
  subst hK
  refine DO.call1 (ω := oList (tInt X.K)) (g := fun x => sortI (to x)) (fun v x F H sm r Q q => ?_) he (fun pa => pe_callB cr_sortedI hg hm (by decide +kernel) pa (by decide) (by decide) hs hpl) hs
  obtain ⟨a, vs, ev, sq, pr, z⟩ := hl r
  have e := paired_ints pr
  subst e
  refine ⟨a, to x, by rw [ev], sm.seq sq, fun ns' p h1 h2 n => ?_⟩
  have e2 : ns' = sortI (to x) := sort_unique (h1.trans (sortI_perm _).symm) h2 (sortI_pw _)
  subst e2
  exact q p _ n ⟨_, rfl, paired_intsR _, by rw [(sortI_perm _).length_eq]; exact z⟩
/-- list(e) of a list -/
theorem DO.list {to : L.α → List τ.α} {f : S → L.α} (hl : LL L τ to) (hm : X.mg "list" = none) (he : DX K X Δ e L ms c1 Δ1 f ta) (hK : X.K = K := by rfl) (hg : Gl X "list" := by rfl) (hs : starEach [e] X.env = (false, eval e X.env) :: starEach [] X.env := by rfl) (hpl : (backTo pos (starEach [] X.env)).any (·.1) = false := by rfl) :
    DO K X Δ (.Call (.Name "list" px) [e] [] pos) (oList τ) ms c1 Δ1 (fun s => to (f s)) (tCB (fun xs H Q => ∃ p ys, xs = [.ref p] ∧ (SqL K H p ys ∨ SqT K H p ys) ∧ ∀ l, H l = none → Q (.ref l) (upd H l (.lst ys))) (tCons ta tNil)) := by
  subst hK
  refine DO.call1 (ω := oList τ) (g := fun x => to x) (fun v x F H sm r Q q => ?_) he (fun pa => pe_callTy call_list_of hg hm (by decide +kernel) pa (by decide) (by decide) hs hpl) hs
  obtain ⟨a, vs, ev, sq, pr, z⟩ := hl r
  exact ⟨a, vs, by rw [ev], .inl (sm.seq sq), fun p n => q p _ n ⟨_, rfl, pr, z⟩⟩
/-! #### in, not in, count -/
theorem eqV_int (a b : Int) : eqV (.int a) (.int b) = decide (a = b) := by show (a == b) = _; exact Bool.beq_eq_decide_eq a b
theorem inV_ints (x : Int) : ∀ xs : List Int, inV (.int x) (xs.map V.int) = decide (x ∈ xs)
  | [] => rfl
  | y :: ys => by
    show (eqV (.int y) (.int x) || inV (.int x) (ys.map V.int)) = _
    rw [eqV_int, inV_ints x ys]
    by_cases h : x = y
    · subst h; simp
    · simp [h, Ne.symm h]
theorem flat_ints : ∀ xs : List Int, (xs.map V.int).all flatV = true
  | [] => rfl
  | x :: xs => by rw [List.map_cons, List.all_cons, flat_ints xs]; rfl
theorem r2_inI {neg : Bool} {to : L.α → List Int} (hl : LL L (tInt K) to) : R2ok K (rIn K neg) (tInt K) L (tBool K) [] (fun x xs => if neg then !decide (x ∈ to xs) else decide (x ∈ to xs)) := fun x y v u F H sm r1 r2 _ Q q => by
  obtain ⟨a, vs, ev, sq, pr, _⟩ := hl r2
  have e := paired_ints pr
  subst e
  rw [show v = V.int x from r1, ev]
  exact ⟨a, _, rfl, .inl (sm.seq sq), rfl, flat_ints _, by rw [inV_ints]; exact q _ F H (Gr.refl sm) rfl⟩
theorem r2_inT2 {neg : Bool} : R2ok K (rIn K neg) (tInt K) (tTp [tInt K, tInt K]) (tBool K) [] (fun x xs => if neg then !decide (x ∈ [xs.1, xs.2]) else decide (x ∈ [xs.1, xs.2])) := fun x y v u F H sm r1 r2 _ Q q => by
  obtain ⟨a, vs, ev, sq, w1, r, e1, r3, w2, e2, r4⟩ := r2
  rw [show v = V.int x from r1, ev]
  rw [show w1 = V.int y.1 from r3] at e1
  rw [show w2 = V.int y.2 from r4] at e2
  subst e1 e2
  refine ⟨a, _, rfl, .inr (.inl (.inl (sm _ _ sq))), rfl, rfl, ?_⟩
  rw [show inV (.int x) [V.int y.1, V.int y.2] = decide (x ∈ [y.1, y.2]) from inV_ints x [y.1, y.2]]
  exact q _ F H (Gr.refl sm) rfl
section
variable {f : S → Int} {g : S → L.α} {to : L.α → List Int} {xs : L.α}
theorem DX.inI (hl : LL L (tInt K) to) (ha : DX K X Δ a (tInt K) m1 c1 Δ1 f ta) (hb : DX K X Δ1 b L m2 c2 Δ2 g tb) (hK : X.K = K := by rfl) (hmk : behindInMarks .In b = false := by with_unfolding_all rfl) : DX K X Δ (.Compare a [.In] [b] pos) (tBool K) (m1 ++ m2) (c1 ++ (c2 ++ [])) Δ2 (fun s => decide (f s ∈ to (g s))) (tOp (rIn K false) ta tb) := by
  subst hK
  exact DX.bin (τ := tBool X.K) (cc := []) (g := fun (x : Int) (xs : L.α) => decide (x ∈ to xs)) (r2_inI (neg := false) hl) ha hb fun p q => pe_cmpR op_in_seq p q hmk
theorem DT.inI (hl : LL L (tInt K) to) (ha : DX K X Δ a (tInt K) m1 c1 Δ1 f ta) (hb : DX K X Δ1 b L m2 c2 Δ2 g tb) (hK : X.K = K := by rfl) (hmk : behindInMarks .In b = false := by with_unfolding_all rfl) : DT K X Δ (.Compare a [.In] [b] pos) (m1 ++ m2) (c1 ++ (c2 ++ [])) Δ2 (fun s => decide (f s ∈ to (g s))) (tTest (tOp (rIn K false) ta tb)) := by
  subst hK
  exact DT.bin (cc := []) (g := fun (x : Int) (xs : L.α) => decide (x ∈ to xs)) (r2_inI (neg := false) hl) ha hb fun p q => pt_cmpR op_in_seq p q hmk
theorem DX.ninI (hl : LL L (tInt K) to) (ha : DX K X Δ a (tInt K) m1 c1 Δ1 f ta) (hb : DX K X Δ1 b L m2 c2 Δ2 g tb) (hK : X.K = K := by rfl) (hmk : behindInMarks .NotIn b = false := by with_unfolding_all rfl) : DX K X Δ (.Compare a [.NotIn] [b] pos) (tBool K) (m1 ++ m2) (c1 ++ (c2 ++ [])) Δ2 (fun s => !decide (f s ∈ to (g s))) (tOp (rIn K true) ta tb) := by
  subst hK
  exact DX.bin (τ := tBool X.K) (cc := []) (g := fun (x : Int) (xs : L.α) => !decide (x ∈ to xs)) (r2_inI (neg := true) hl) ha hb fun p q => pe_cmpR op_notIn_seq p q hmk
theorem DT.ninI (hl : LL L (tInt K) to) (ha : DX K X Δ a (tInt K) m1 c1 Δ1 f ta) (hb : DX K X Δ1 b L m2 c2 Δ2 g tb) (hK : X.K = K := by rfl) (hmk : behindInMarks .NotIn b = false := by with_unfolding_all rfl) : DT K X Δ (.Compare a [.NotIn] [b] pos) (m1 ++ m2) (c1 ++ (c2 ++ [])) Δ2 (fun s => !decide (f s ∈ to (g s))) (tTest (tOp (rIn K true) ta tb)) := by
  subst hK
  exact DT.bin (cc := []) (g := fun (x : Int) (xs : L.α) => !decide (x ∈ to xs)) (r2_inI (neg := true) hl) ha hb fun p q => pt_cmpR op_notIn_seq p q hmk
end
section
variable {f : S → Int} {g : S → Int × Int}
theorem DX.inT2 (ha : DX K X Δ a (tInt K) m1 c1 Δ1 f ta) (hb : DX K X Δ1 b (tTp [tInt K, tInt K]) m2 c2 Δ2 g tb) (hK : X.K = K := by rfl) (hmk : behindInMarks .In b = false := by with_unfolding_all rfl) : DX K X Δ (.Compare a [.In] [b] pos) (tBool K) (m1 ++ m2) (c1 ++ (c2 ++ [])) Δ2 (fun s => decide (f s ∈ [(g s).1, (g s).2])) (tOp (rIn K false) ta tb) := by
  subst hK
  exact DX.bin (τ := tBool X.K) (cc := []) (g := fun (x : Int) (xs : Int × Int) => decide (x ∈ [xs.1, xs.2])) (r2_inT2 (neg := false)) ha hb fun p q => pe_cmpR op_in_seq p q hmk
theorem DT.inT2 (ha : DX K X Δ a (tInt K) m1 c1 Δ1 f ta) (hb : DX K X Δ1 b (tTp [tInt K, tInt K]) m2 c2 Δ2 g tb) (hK : X.K = K := by rfl) (hmk : behindInMarks .In b = false := by with_unfolding_all rfl) : DT K X Δ (.Compare a [.In] [b] pos) (m1 ++ m2) (c1 ++ (c2 ++ [])) Δ2 (fun s => decide (f s ∈ [(g s).1, (g s).2])) (tTest (tOp (rIn K false) ta tb)) := by
  subst hK
  exact DT.bin (cc := []) (g := fun (x : Int) (xs : Int × Int) => decide (x ∈ [xs.1, xs.2])) (r2_inT2 (neg := false)) ha hb fun p q => pt_cmpR op_in_seq p q hmk
theorem DX.ninT2 (ha : DX K X Δ a (tInt K) m1 c1 Δ1 f ta) (hb : DX K X Δ1 b (tTp [tInt K, tInt K]) m2 c2 Δ2 g tb) (hK : X.K = K := by rfl) (hmk : behindInMarks .NotIn b = false := by with_unfolding_all rfl) : DX K X Δ (.Compare a [.NotIn] [b] pos) (tBool K) (m1 ++ m2) (c1 ++ (c2 ++ [])) Δ2 (fun s => !decide (f s ∈ [(g s).1, (g s).2])) (tOp (rIn K true) ta tb) := by
  subst hK
  exact DX.bin (τ := tBool X.K) (cc := []) (g := fun (x : Int) (xs : Int × Int) => !decide (x ∈ [xs.1, xs.2])) (r2_inT2 (neg := true)) ha hb fun p q => pe_cmpR op_notIn_seq p q hmk
theorem DT.ninT2 (ha : DX K X Δ a (tInt K) m1 c1 Δ1 f ta) (hb : DX K X Δ1 b (tTp [tInt K, tInt K]) m2 c2 Δ2 g tb) (hK : X.K = K := by rfl) (hmk : behindInMarks .NotIn b = false := by with_unfolding_all rfl) : DT K X Δ (.Compare a [.NotIn] [b] pos) (m1 ++ m2) (c1 ++ (c2 ++ [])) Δ2 (fun s => !decide (f s ∈ [(g s).1, (g s).2])) (tTest (tOp (rIn K true) ta tb)) := by
  subst hK
  exact DT.bin (cc := []) (g := fun (x : Int) (xs : Int × Int) => !decide (x ∈ [xs.1, xs.2])) (r2_inT2 (neg := true)) ha hb fun p q => pt_cmpR op_notIn_seq p q hmk
end
/-- xs.count(e), ints; xs is data that stays -/
theorem DX.count {to : L.α → List Int} {f : S → L.α} {fe : S → Int} (hl : LL L (tInt K) to) (h : Δ[i]? = some (.fz L f)) (he : DX K X Δ e (tInt K) ms c1 Δ1 fe ta) (hN : X.N[i]? = some x := by rfl) (hv : Vis X.env.scope x := by first | exact Or.inl rfl | exact Or.inr (Or.inl rfl) | exact Or.inr (Or.inr rfl)) (hd : (x == ("__debug__" : Str)) = false := by decide)
    (hcd : (x == ("__classdict__" : Str)) = false := by decide) (hbase : attributeBase (.Name x px) "count" X.env (eval (.Name x px) X.env) = eval (.Name x px) X.env := by rfl)
    (hfew : ((backTo pos (starEach [e] X.env)).all (fun x => !x.1) && (backToKw pos (keywordEach [] X.env)).all (fun x => x.1.isSome)
      && decide ([e].length + ([] : List Keyword).length + (if ([] : List Keyword).isEmpty then 0 else 1) < 30)) = true := by rfl)
    (hline : (apos.endLine == pos.line) = true := by rfl) (hs : starEach [e] X.env = (false, eval e X.env) :: starEach [] X.env := by rfl) (hplain : (backTo pos (starEach [] X.env)).any (·.1) = false := by rfl) (hK : X.K = K := by rfl) :
    DX K X Δ (.Call (.Attribute (.Name x px) "count" apos) [e] [] pos) (tInt K) ms c1 Δ1 (fun s => ((to (f s)).count (fe s) : Int)) (tBM K "list" (rCntI K) (tVar i) (tCons ta tNil)) := by
  subst hK
  obtain ⟨d1, p, r⟩ := he
  refine ⟨d1, pe_bm PySem.F.plainAttrs_list PySem.F.slot_list_count PySem.F.type_list_count mt_lcount (pe_var hN hv hd hcd) (pa_cons p pa_nil hs) hbase hfew hline hs hplain, fun s F H σ hh sm hc Q q => ?_⟩
  have hi : i < σ.length := by rw [hh.len]; exact (List.getElem?_eq_some_iff.mp h).1
  obtain ⟨o, ho⟩ : ∃ o, σ[i]? = some o := ⟨_, List.getElem?_eq_getElem hi⟩
  obtain ⟨v, e, r0⟩ := hh.at_ i _ o h ho
  obtain ⟨a, vs, ev, sq, pr, _⟩ := hl r0
  have e2 := paired_ints pr
  subst e2
  subst ev
  refine ⟨.ref a, by rw [ho, e], .inl ⟨rfl, _, sm.seq sq⟩, r s F H σ hh sm hc _ fun w F1 H1 g1 hh1 r1 => ⟨a, to (f s), fe s, rfl, by rw [show w = .int (fe s) from r1], g1.fh.seq (g1.ff.seq sq), q _ F1 H1 g1 hh1 rfl⟩⟩
end
end Dx

/-! Dx, part P: slices with a step, calls by keyword. -/
namespace Dx
open PySem PySem.Spec PyProof PyProof.Rows L2
/-- the items of xs[lo:hi:st] -/
def stepL {α : Type} (xs : List α) (lo hi st : Option Int) : List α := (sliceRange (sliceBounds lo hi st xs.length).1 (sliceBounds lo hi st xs.length).2.1 (sliceBounds lo hi st xs.length).2.2).filterMap (xs[·]?)
theorem vals_pick {xs : List V} {us : List Value} (r : Vals xs us) : ∀ is : List Nat, Vals (is.filterMap (xs[·]?)) (is.filterMap (us[·]?))
  | [] => .nil
  | i :: is => by
    rw [List.filterMap_cons, List.filterMap_cons]
    cases h : xs[i]? with
    | none =>
      have h2 : us[i]? = none := by rw [List.getElem?_eq_none_iff, ← r.length]; exact List.getElem?_eq_none_iff.mp h
      rw [h2]
      exact vals_pick r is
    | some v =>
      obtain ⟨u, hu, ru⟩ := r.get h
      rw [hu]
      exact .cons ru (vals_pick r is)
theorem paired_pick {α β : Type} {R : α → β → Prop} {xs : List α} {us : List β} (r : Paired R xs us) : ∀ is : List Nat, Paired R (is.filterMap (xs[·]?)) (is.filterMap (us[·]?))
  | [] => .nil
  | i :: is => by
    rw [List.filterMap_cons, List.filterMap_cons]
    cases h : us[i]? with
    | none =>
      have h2 : xs[i]? = none := by rw [List.getElem?_eq_none_iff, r.length]; exact List.getElem?_eq_none_iff.mp h
      rw [h2]
      exact paired_pick r is
    | some v =>
      obtain ⟨u, hu, ru⟩ := paired_at r h
      rw [hu]
      exact .cons ru (paired_pick r is)
theorem step_pick (its : List Value) (lo hi st : Option Int) : slicePick its.toArray lo hi st = (stepL its lo hi st).toArray := by
  unfold slicePick stepL
  simp only [List.size_toArray]
  congr 1
  congr 1
  funext i
  simp
theorem stepL_len {α : Type} (d : α) (xs : List α) (lo hi st : Option Int) : (stepL xs lo hi st).length ≤ xs.length := by
  have h := slicePick_size_le (xs.map fun _ => Value.none).toArray lo hi st
  have e : (slicePick (xs.map fun _ => Value.none).toArray lo hi st).size = (stepL xs lo hi st).length := by
    rw [step_pick, List.size_toArray]
    unfold stepL
    rw [List.length_map]
    generalize sliceRange _ _ _ = is
    induction is with
    | nil => rfl
    | cons i is ih =>
      rw [List.filterMap_cons, List.filterMap_cons, List.getElem?_map]
      cases xs[i]? with
      | none => exact ih
      | some v =>
        show (_ :: _).length = (_ :: _).length
        rw [List.length_cons, List.length_cons]
        exact congrArg (· + 1) ih
  rw [e] at h
  simpa using h
section
variable {K : PySem.W.Frag} {X : Cx} {S R R' : Type} {Δ Δ1 Δ2 Δ3 Δ4 : Ctx K S} {e a b : Expr} {es : List Expr} {pos p' p2 px apos : Pos} {τ τ1 τ2 L L1 L2' : Ty K} {ω : OTy K} {ms m1 m2 m3 m4 : List Nat} {c1 c2 c3 c4 cs : List (S → Prop)} {ta tb te : TE} {tl : TA} {i j : Nat} {x : Str} {fm : Fm K R'} {lo hi : Option Expr} {st : Expr} {tlo thi tst : TO}
def tSlS (K : PySem.W.Frag) (te : TE) (tl th ts : TO) : TE := fun σ H Q => te σ H fun x H1 => tl σ H1 fun l H2 => th σ H2 fun u H3 => ts σ H3 fun o H4 => ∃ a xs, x = .ref a ∧ SqL K H4 a xs ∧ o ≠ some 0 ∧ ∀ p, H4 p = none → Q (.ref p) (upd H4 p (.lst (stepL xs l u o)))
theorem pe_sliceS (he : PE X e te) (hl : PO X lo tlo) (hu : PO X hi thi) (hs : PO X (some st) tst) (hlt : ∀ o r, letTemporaryGo e o r = pure () := by intro _ _; rfl) : PE X (.Subscript e (.Slice lo hi (some st) p2) pos) (tSlS X.K te tlo thi tst) := by
  refine ⟨fun pins s σ H Q I h => ?_⟩
  refine wpAny_Subscript_Slice_step slot_list_getitem.lookup (thn (he.run pins s σ H _ I h) fun v s1 ⟨x, H1, I1, r1, q1⟩ => ?_) hlt
  refine wpAny_Slice (thn (hl.run pins s1 σ H1 _ I1 q1) fun vl s2 ⟨l, H2, I2, pl, q2⟩ => thn (hu.run pins s2 σ H2 _ I2 q2) fun vu s3 ⟨u, H3, I3, pu, q3⟩ => thn (hs.run pins s3 σ H3 _ I3 q3) fun vs s4 ⟨o, H4, I4, ps, q4⟩ => ?_)
  obtain ⟨a, xs, rfl, hx, h0, q⟩ := q4
  cases r1
  have I5 : Inv X pins σ H4 { s4 with heap := s4.heap.push { cls := .type "slice", data := .fields #[vl, vu, vs] } } := I4.kept (t' := s4.toks) fun b ob q => Heap.get?_push_of_some _ q
  obtain ⟨its, r, ht, hz⟩ := I5.list hx
  have hlen := r.length
  refine ⟨ht.isList.typeIs, ?_⟩
  refine wpAny_getItem_list_slice ht.isList (Heap.IsSliceOf.new ..) pl pu ps h0 ?_ (by rw [List.size_toArray] <;> omega)
  rw [step_pick]
  refine ⟨.ref _, _, I5.laid (t' := s4.toks) (o := .lst (stepL xs l u o)) (fun b ob q => Heap.get?_push_of_some _ q) (Nat.le_refl _) ?_, rfl, q _ (I5.hok.fresh (Nat.le_refl _))⟩
  refine ⟨Nat.le_trans (stepL_len V.non xs l u o) hz, _, 0, ?_, Heap.get?_push_size _ rfl⟩
  unfold stepL
  rw [hlen]
  exact vals_pick r _
theorem DO.slS {to : L.α → List τ.α} {f : S → L.α} {flo fhi fst : S → Option Int} (hl : LL L τ to) (ha : DX K X Δ a L m1 c1 Δ1 f ta) (h1 : DPo K X Δ1 lo m2 c2 Δ2 flo tlo) (h2 : DPo K X Δ2 hi m3 c3 Δ3 fhi thi) (h3 : DPo K X Δ3 (some st) m4 c4 Δ4 fst tst) (h0 : ∀ s, fst s ≠ some 0) (hK : X.K = K := by rfl) (hlt : ∀ o r, letTemporaryGo a o r = pure () := by intro _ _; rfl) :
    DO K X Δ (.Subscript a (.Slice lo hi (some st) p2) pos) (oList τ) (m1 ++ (m2 ++ (m3 ++ m4))) (c1 ++ (c2 ++ (c3 ++ c4))) Δ4 (fun s => stepL (to (f s)) (flo s) (fhi s) (fst s)) (tSlS K ta tlo thi tst) := by
  subst hK
  obtain ⟨d1, p1, r1⟩ := ha
  obtain ⟨d2, q2, r2⟩ := h1
  obtain ⟨d3, q3, r3⟩ := h2
  obtain ⟨d4, q4, r4⟩ := h3
  refine ⟨d1.trans (d2.trans (d3.trans d4)), pe_sliceS p1 q2 q3 q4 hlt, fun s F H σ hh sm hc Q q => ?_⟩
  obtain ⟨k1, k2⟩ := conj_app hc
  obtain ⟨k2, k3⟩ := conj_app k2
  obtain ⟨k3, k4⟩ := conj_app k3
  refine r1 s F H σ hh sm k1 _ fun v F1 H1 g1 hh1 w1 => r2 s F1 H1 σ hh1 g1.fh k2 _ fun F2 H2 g2 hh2 => r3 s F2 H2 σ hh2 g2.fh k3 _ fun F3 H3 g3 hh3 => r4 s F3 H3 σ hh3 g3.fh k4 _ fun F4 H4 g4 hh4 => ?_
  obtain ⟨a, vs, ev, sq, pr, z⟩ := hl (L.mono (g2.ff.trans (g3.ff.trans g4.ff)) w1)
  refine ⟨a, vs, ev, g4.fh.seq sq, h0 s, fun p n => ?_⟩
  have ow : (oList τ).own F4 (.lst (stepL vs (flo s) (fhi s) (fst s))) (stepL (to (f s)) (flo s) (fhi s) (fst s)) := ⟨_, rfl, by unfold stepL; rw [pr.length]; exact paired_pick pr _, Nat.le_trans (by cases e : to (f s) with | nil => simp [stepL] | cons y ys => exact stepL_len y _ _ _ _) z⟩
  have g12 : Gr (MsAt (m1 ++ (m2 ++ (m3 ++ m4))) σ) F H F4 H4 := (g1.mono (msAt_l (m2 := m2 ++ (m3 ++ m4)))).trans ((g2.mono (fun a h => msAt_r (m1 := m1) a (msAt_l (m2 := m3 ++ m4) a h))).trans ((g3.mono fun a h => msAt_r (m1 := m1) a (msAt_r (m1 := m2) a (msAt_l (m2 := m4) a h))).trans (g4.mono fun a h => msAt_r (m1 := m1) a (msAt_r (m1 := m2) a (msAt_r (m1 := m3) a h)))))
  obtain ⟨g5, fn, e5⟩ := own_of_new (ω := oList τ) g4.fh n ow
  exact q p _ F4 _ (g12.trans g5.of0) (hh4.grow g5) (g12.dom p n) fn e5 ow
/-! #### calls by keyword -/
/-- keyword arguments: data that stays -/
def DKs (K : PySem.W.Frag) (X : Cx) (Δ : Ctx K S) (kws : List Keyword) (ms : List Nat) (cs : List (S → Prop)) (Δ1 : Ctx K S) (as : List (AK K S)) (t : TA) : Prop :=
  Diff ms Δ Δ1 ∧ L2.PK X kws t ∧ ∀ s F H σ, Holds Δ s F H σ → Same F H → Conj cs s → ∀ Q : List V → Hp → Prop, (∀ vs F' H', Gr (MsAt ms σ) F H F' H' → Holds Δ1 s F' H' σ → AkAll F' σ s as vs → Q vs H') → t σ H Q
theorem DKs.nil : DKs K X Δ [] [] [] Δ [] tNil := ⟨Diff.refl, pk_nil, fun s F H σ hh sm _ Q q => q [] F H (Gr.refl sm) hh rfl⟩
variable {kws : List Keyword} {nm : Option Str} {kp : Pos} {as ks as' : List (AK K S)} {tk : TA}
theorem DKs.cons {f : S → τ.α} (ha : DX K X Δ e τ m1 c1 Δ1 f ta) (hb : DKs K X Δ1 kws m2 c2 Δ2 as tl) : DKs K X Δ (⟨nm, e, kp⟩ :: kws) (m1 ++ m2) (c1 ++ c2) Δ2 (.fz τ f :: as) (tCons ta tl) := by
  obtain ⟨d1, pa, ra⟩ := ha
  obtain ⟨d2, pb, rb⟩ := hb
  refine ⟨d1.trans d2, pk_cons pa pb, fun s F H σ hh sm hc Q q => ?_⟩
  obtain ⟨h1, h2⟩ := conj_app hc
  refine ra s F H σ hh sm h1 _ fun v F1 H1 g1 hh1 r1 => ?_
  refine rb s F1 H1 σ hh1 g1.fh h2 _ fun vs F2 H2 g2 hh2 r2 => ?_
  exact q _ F2 H2 ((g1.mono (msAt_l (m2 := m2))).trans (g2.mono (msAt_r (m1 := m1)))) hh2 ⟨v, vs, rfl, τ.mono g2.ff r1, r2⟩
/-- as' are the arguments as, picked -/
inductive Pick (as : List (AK K S)) : List Nat → List (AK K S) → Prop
  | nil : Pick as [] []
  | cons {i : Nat} {is : List Nat} {a : AK K S} {r : List (AK K S)} : as[i]? = some a → Pick as is r → Pick as (i :: is) (a :: r)
theorem akAll_at {F : Hp} {σ : L2.St} {s : S} : ∀ {as : List (AK K S)} {vs : List V} {i : Nat} {a : AK K S}, AkAll F σ s as vs → as[i]? = some a → ∃ v, vs[i]? = some v ∧ AkRep F σ s a v
  | [], _, _, _, _, h => by simp at h
  | a :: as, _, 0, _, ⟨v, r, e, h1, _⟩, h => by simp at h; subst h; exact ⟨v, by rw [e]; rfl, h1⟩
  | a :: as, _, i + 1, _, ⟨v, r, e, _, h2⟩, h => by
    obtain ⟨w, e2, r2⟩ := akAll_at h2 (by simpa using h)
    exact ⟨w, by rw [e]; exact e2, r2⟩
theorem akAll_len {F : Hp} {σ : L2.St} {s : S} : ∀ {as : List (AK K S)} {vs : List V}, AkAll F σ s as vs → vs.length = as.length
  | [], _, h => by rw [show _ = [] from h]; rfl
  | a :: as, _, ⟨v, r, e, _, h2⟩ => by rw [e, List.length_cons, List.length_cons, akAll_len h2]
theorem akAll_app {F : Hp} {σ : L2.St} {s : S} : ∀ {as bs : List (AK K S)} {vs us : List V}, AkAll F σ s as vs → AkAll F σ s bs us → AkAll F σ s (as ++ bs) (vs ++ us)
  | [], _, _, _, h, h' => by rw [show _ = [] from h]; exact h'
  | a :: as, _, _, _, ⟨v, r, e, h1, h2⟩, h' => ⟨v, r ++ _, by rw [e]; rfl, h1, akAll_app h2 h'⟩
theorem akAll_mono {F F' : Hp} {σ : L2.St} {s : S} (h : Same F F') : ∀ {as : List (AK K S)} {vs : List V}, AkAll F σ s as vs → AkAll F' σ s as vs
  | [], _, h' => h'
  | a :: as, _, ⟨v, r, e, h1, h2⟩ => ⟨v, r, e, akRep_mono h h1, akAll_mono h h2⟩
def pickV (is : List Nat) (vs : List V) : List V := is.map fun i => vs.getD i .non
theorem Pick.all {F : Hp} {σ : L2.St} {s : S} {vs : List V} {is : List Nat} (h : Pick as is as') (ha : AkAll F σ s as vs) : AkAll F σ s as' (pickV is vs) := by
  induction h with
  | nil => rfl
  | cons e _ ih =>
    obtain ⟨v, e2, r⟩ := akAll_at ha e
    exact ⟨v, _, by unfold pickV; rw [List.map_cons, List.getD_eq_getElem?_getD, e2]; rfl, r, ih⟩
/-- the call's keywords name the parameters that the places is tell -/
def BindsK (fd : FuncData) (ps : List Str) (n : Nat) (kn : List Str) (is : List Nat) : Prop :=
  ∀ (s : Shared) (us ws : List Value), us.length = n → ws.length = kn.length → BindsTo s fd ⟨us, kn.zip ws⟩ (ps.zip (is.map fun i => (us ++ ws).getD i .none))
theorem vals_app {xs ys : List V} {us ws : List Value} (h : Vals xs us) (h' : Vals ys ws) : Vals (xs ++ ys) (us ++ ws) := h.append h'
theorem vals_getD {xs : List V} {us : List Value} (h : Vals xs us) (is : List Nat) (hi : ∀ i ∈ is, i < xs.length) : Vals (pickV is xs) (is.map fun i => us.getD i .none) := by
  induction is with
  | nil => exact .nil
  | cons i is ih =>
    have hl := hi i List.mem_cons_self
    obtain ⟨u, e, r⟩ := h.get (List.getElem?_eq_getElem hl)
    refine .cons ?_ (ih fun j hj => hi j (List.mem_cons_of_mem _ hj))
    show RelV (xs.getD i V.non) (us.getD i Value.none)
    rw [List.getD_eq_getElem?_getD, List.getD_eq_getElem?_getD, e, List.getElem?_eq_getElem hl]
    exact r
def tCallG (sp : Sp) (n : Nat) (kn : List Str) (is : List Nat) (t tk : TA) : TE := fun σ H Q => t σ H fun vs H1 => tk σ H1 fun zs H2 => vs.length = n ∧ zs.length = kn.length ∧ sp (pickV is (vs ++ zs)) H2 Q E0
section
variable {k n : Nat} {f : Addr} {fd : FuncData} {ps kn : List Str} {sp : Sp} {is : List Nat}
theorem run_gk {pins : List (Addr × Obj)} {σ : L2.St} {H : Hp} {s : Shared} {Q : VK} {us ws : List Value} {vs zs : List V} (G : FnG X.prog X.w X.K X.mg X.base CX0 k f fd ps sp) (hr : RoomG k X.A) (hb : BindsK fd ps n kn is) (hi : ∀ i ∈ is, i < n + kn.length)
    (I : Inv X pins σ H s) (r : Vals vs us) (rz : Vals zs ws) (hn : vs.length = n) (hz : zs.length = kn.length) (h : sp (pickV is (vs ++ zs)) H Q E0) : wpAny (model X.prog X.w) X.A (call (.ref f) us (kn.zip ws)) (EP X pins σ Q) X.xe s := by
  have r2 := vals_getD (vals_app r rz) is fun i q => by rw [List.length_append, hn, hz]; exact hi i q
  refine wpAny_call (codeAny_mono (G.run X.A X.stack s H ⟨us, kn.zip ws⟩ _ _ Q E0 hr I.env0 (hb s us ws (by rw [← r.length]; exact hn) (by rw [← rz.length]; exact hz)) r2 h) fun res s' hq => ?_)
  cases res with
  | error e => exact pass0 pins σ H s e s' I hq
  | ok fl => cases fl with
    | ret u => exact I.after hq
    | next => exact hq.elim
    | brk => exact hq.elim
    | cont => exact hq.elim
theorem pe_callGK0 (G : FnG X.prog X.w X.K X.mg X.base CX0 k f fd ps sp) (hr : RoomG k X.A) (hg : Gl X x) (hm : X.mg x = some (.ref f)) (hk : PySem.W.keepIn X.K (.ref f) = true) (hb : BindsK fd ps 0 kn is) (hi : ∀ i ∈ is, i < 0 + kn.length) (hkw : L2.PK X kws tk)
    (hall : (backToKw pos (keywordEach kws X.env)).all (·.1.isSome) = true := by rfl) (hks : (backToKw pos (keywordEach kws X.env)).filterMap (·.1) = kn := by rfl)
    (hdb : (x == ("__debug__" : Str)) = false := by decide) (hpl : ((backTo pos (starEach [] X.env)).any (·.1) || (backToKw pos (keywordEach kws X.env)).any (·.1.isNone)) = false := by rfl) :
    PE X (.Call (.Name x px) [] kws pos) (tCallG sp 0 kn is tNil tk) := by
  refine ⟨fun pins s σ H Q I h => wpAny_Call_Name_kw (ld_glob I hg hm ?_ hdb)⟩
  refine PySem.W.callWith_KW0 (h₀ := X.base) I.ok.mod.kin hk hall (thn (hkw.run pos pins s σ H _ I h) fun ws s2 ⟨zs, H2, I2, rz, q1, q2, q3⟩ => ⟨I2.kIn, ?_⟩) hpl
  rw [hks]
  exact run_gk G hr hb hi I2 .nil rz q1 q2 q3
theorem pe_callGK (G : FnG X.prog X.w X.K X.mg X.base CX0 k f fd ps sp) (hr : RoomG k X.A) (hg : Gl X x) (hm : X.mg x = some (.ref f)) (hk : PySem.W.keepIn X.K (.ref f) = true) (hb : BindsK fd ps n kn is) (hi : ∀ i ∈ is, i < n + kn.length) (ha : PA X (e :: es) tl) (hkw : L2.PK X kws tk)
    (hall : (backToKw pos (keywordEach kws X.env)).all (·.1.isSome) = true := by rfl) (hks : (backToKw pos (keywordEach kws X.env)).filterMap (·.1) = kn := by rfl)
    (hdb : (x == ("__debug__" : Str)) = false := by decide) (he : starEach (e :: es) X.env = (false, eval e X.env) :: starEach es X.env := by rfl)
    (hpl : ((backTo pos (starEach (e :: es) X.env)).any (·.1) || (backToKw pos (keywordEach kws X.env)).any (·.1.isNone)) = false := by rfl) :
    PE X (.Call (.Name x px) (e :: es) kws pos) (tCallG sp n kn is tl tk) := by
  refine ⟨fun pins s σ H Q I h => wpAny_Call_Name_kw (ld_glob I hg hm ?_ hdb)⟩
  refine PySem.W.callWith_KW (h₀ := X.base) I.ok.mod.kin hk hall (thn (ha.run pos pins s σ H _ I h) fun us s1 ⟨vs, H1, I1, r, q⟩ => ?_) hpl he
  refine thn (hkw.run pos pins s1 σ H1 _ I1 q) fun ws s2 ⟨zs, H2, I2, rz, q1, q2, q3⟩ => ⟨I2.kIn, ?_⟩
  rw [hks]
  exact run_gk G hr hb hi I2 r rz q1 q2 q3
variable {p : HP fm.ps → Prop} {fv : HP fm.ps → R'} {g : S → HP fm.ps}
/-- f(k = v, ..), data that stays -/
theorem DC.callK0 (G : FnG X.prog X.w K X.mg X.base CX0 k f fd ps (SpOf fm p fv)) (hr : RoomG k X.A) (hm : X.mg x = some (.ref f)) (hk : PySem.W.keepIn K (.ref f) = true) (hb : BindsK fd ps 0 kn is) (hi : ∀ i ∈ is, i < 0 + kn.length)
    (ha : DKs K X Δ kws m1 c1 Δ1 as tk) (hka : as.length = kn.length) (hpk : Pick as is as') (har : Ar Δ1 as' fm.ps g) (hup : Up Δ1 as' fm.ps (fun s => fm.mv (fv (g s))) Δ1) (hnl : lent as' = []) (hK : X.K = K := by rfl) (hg : Gl X x := by rfl)
    (hall : (backToKw pos (keywordEach kws X.env)).all (·.1.isSome) = true := by rfl) (hks : (backToKw pos (keywordEach kws X.env)).filterMap (·.1) = kn := by rfl)
    (hdb : (x == ("__debug__" : Str)) = false := by decide) (hpl : ((backTo pos (starEach [] X.env)).any (·.1) || (backToKw pos (keywordEach kws X.env)).any (·.1.isNone)) = false := by rfl) :
    DC K X Δ (.Call (.Name x px) [] kws pos) fm m1 (c1 ++ [fun s => p (g s)]) Δ1 (fun s => fv (g s)) (tCallG (SpOf fm p fv) 0 kn is tNil tk) := by
  subst hK
  obtain ⟨d1, pa, ra⟩ := ha
  refine ⟨d1, pe_callGK0 G hr hg hm hk hb hi pa hall hks hdb hpl, fun s F H σ hh sm hc Q q => ?_⟩
  obtain ⟨k1, k2, _⟩ := conj_app hc
  refine ra s F H σ hh sm k1 _ fun vs F1 H1 g1 hh1 r1 => ⟨rfl, by rw [akAll_len r1, hka], ?_⟩
  have r2 := hpk.all r1
  show SpOf fm p fv (pickV is vs) H1 Q E0
  obtain ⟨w1, w2⟩ := har.holds hh1 g1.fh r2 (by rw [hnl]; exact List.nodup_nil)
  refine ⟨F1, g s, w1, g1.fh, k2, fun v F2 H2 g2 ro mo => ?_⟩
  have g2' : Gr No F1 H1 F2 H2 := g2.mono fun a ⟨j, hj, e⟩ => by
    obtain ⟨i, hi, _⟩ := har.muts 0 (us := []) rfl r2 j hj a e
    rw [hnl] at hi; cases hi
  exact q v F2 H2 (g1.trans g2'.of0) (hh1.grow g2') (ro.dom fun a h => g1.dom a h)
/-- f(e, .., k = v, ..), data that stays -/
theorem DC.callK {ks1 : List (AK K S)} (G : FnG X.prog X.w K X.mg X.base CX0 k f fd ps (SpOf fm p fv)) (hr : RoomG k X.A) (hm : X.mg x = some (.ref f)) (hk : PySem.W.keepIn K (.ref f) = true) (hb : BindsK fd ps n kn is) (hi : ∀ i ∈ is, i < n + kn.length)
    (hx : DA K X Δ (e :: es) m1 c1 Δ1 ks1 tl) (hl1 : lent ks1 = []) (hn : ks1.length = n) (ha : DKs K X Δ1 kws m2 c2 Δ2 as tk) (hka : as.length = kn.length) (hpk : Pick (ks1 ++ as) is as') (har : Ar Δ2 as' fm.ps g) (hnl : lent as' = []) (hK : X.K = K := by rfl) (hg : Gl X x := by rfl)
    (hall : (backToKw pos (keywordEach kws X.env)).all (·.1.isSome) = true := by rfl) (hks : (backToKw pos (keywordEach kws X.env)).filterMap (·.1) = kn := by rfl)
    (hdb : (x == ("__debug__" : Str)) = false := by decide) (he : starEach (e :: es) X.env = (false, eval e X.env) :: starEach es X.env := by rfl) (hpl : ((backTo pos (starEach (e :: es) X.env)).any (·.1) || (backToKw pos (keywordEach kws X.env)).any (·.1.isNone)) = false := by rfl) :
    DC K X Δ (.Call (.Name x px) (e :: es) kws pos) fm (m1 ++ m2) (c1 ++ (c2 ++ [fun s => p (g s)])) Δ2 (fun s => fv (g s)) (tCallG (SpOf fm p fv) n kn is tl tk) := by
  subst hK
  obtain ⟨d1, pa, ra⟩ := hx
  obtain ⟨d2, pb, rb⟩ := ha
  refine ⟨d1.trans d2, pe_callGK G hr hg hm hk hb hi pa pb hall hks hdb he hpl, fun s F H σ hh sm hc Q q => ?_⟩
  obtain ⟨k1, k2⟩ := conj_app hc
  obtain ⟨k2, k3, _⟩ := conj_app k2
  refine ra s F H σ hh sm k1 _ fun vs F1 H1 g1 hh1 r1 => rb s F1 H1 σ hh1 g1.fh k2 _ fun zs F2 H2 g2 hh2 r2 => ⟨by rw [akAll_len r1, hn], by rw [akAll_len r2, hka], ?_⟩
  have r3 := hpk.all (akAll_app (akAll_mono g2.ff r1) r2)
  obtain ⟨w1, w2⟩ := har.holds hh2 g2.fh r3 (by rw [hnl]; exact List.nodup_nil)
  refine ⟨F2, g s, w1, g2.fh, k3, fun v F3 H3 g3 ro mo => ?_⟩
  have g3' : Gr No F2 H2 F3 H3 := g3.mono fun a ⟨j, hj, e⟩ => by
    obtain ⟨i, hi, _⟩ := har.muts 0 (us := []) rfl r3 j hj a e
    rw [hnl] at hi; cases hi
  have g12 := (g1.mono (msAt_l (m2 := m2))).trans (g2.mono (msAt_r (m1 := m1)))
  exact q v F3 H3 (g12.trans g3'.of0) (hh2.grow g3') (ro.dom fun a h => g12.dom a h)
end
end
end Dx

/-! Dx, part Q: data of any kind. -/
namespace Dx
open PySem PySem.Spec PyProof PyProof.Rows L2
/-! #### what is asked of data of any kind -/
def kindD : PyData → String
  | .none => "NoneType" | .bool _ => "bool" | .int _ => "int" | .str _ => "str" | .list _ => "list" | .tuple _ => "tuple" | .dict _ => "dict"
def isListD : PyData → Bool | .list _ => true | _ => false
def isTupD : PyData → Bool | .tuple _ => true | _ => false
def isSeqD : PyData → Bool | .list _ => true | .tuple _ => true | _ => false
def isBoolD : PyData → Bool | .bool _ => true | _ => false
def isIntD : PyData → Bool | .int _ => true | .bool _ => true | _ => false
def isStrD : PyData → Bool | .str _ => true | _ => false
def isBoolStrD : PyData → Bool | .bool _ => true | .str _ => true | _ => false
def isNoneD : PyData → Bool | .none => true | _ => false
def itemsD : PyData → List PyData | .list xs => xs | .tuple xs => xs | _ => []
/-- both lists, or both tuples -/
def alikeD : PyData → PyData → Bool | .list _, .list _ => true | .tuple _, .tuple _ => true | _, _ => false
def lenD (d : PyData) : Int := ((itemsD d).length : Int)
theorem kd_list : ∀ d, kitB (kindD d) "list" = some (isListD d) := by intro d; cases d <;> simp only [kindD, isListD] <;> decide +kernel
theorem kd_tuple : ∀ d, kitB (kindD d) "tuple" = some (isTupD d) := by intro d; cases d <;> simp only [kindD, isTupD] <;> decide +kernel
theorem kd_bool : ∀ d, kitB (kindD d) "bool" = some (isBoolD d) := by intro d; cases d <;> simp only [kindD, isBoolD] <;> decide +kernel
theorem kd_int : ∀ d, kitB (kindD d) "int" = some (isIntD d) := by intro d; cases d <;> simp only [kindD, isIntD] <;> decide +kernel
theorem kd_str : ∀ d, kitB (kindD d) "str" = some (isStrD d) := by intro d; cases d <;> simp only [kindD, isStrD] <;> decide +kernel
theorem k2_of {K : PySem.W.Frag} {t : String} {a b : String} {x y : Bool} (h1 : kitB t a = some x) (h2 : kitB t b = some y) : PySem.W.kitAny K (.type t) [.type a, .type b] = some (x || y) :=
  kitAny_cons (kit_ty h1) (fun e => by rw [e, Bool.false_or]; exact kitAny_cons (kit_ty h2) (fun e2 => by rw [e2]; exact kitAny_nil) fun e2 => e2) fun e => by rw [e]; rfl
theorem seq_or (d : PyData) : (isListD d || isTupD d) = isSeqD d := by cases d <;> rfl
theorem boolstr_or (d : PyData) : (isBoolD d || isStrD d) = isBoolStrD d := by cases d <;> rfl
section
variable {K : PySem.W.Frag}
theorem rd_mono {F F' : Hp} {a : Addr} {u : HO} (h : Same F F') (r : Rd F a u) : Rd F' a u := r.elim (fun e => .inl (h _ _ e)) fun ⟨o, e⟩ => .inr ⟨o, h _ _ e⟩
theorem sqT_mono {F F' : Hp} {a : Addr} {vs : List V} (h : Same F F') (r : SqT K F a vs) : SqT K F' a vs := r.elim (fun e => .inl (rd_mono h e)) .inr
mutual
theorem dp_mono {F F' : Hp} (h : Same F F') : ∀ (d : PyData) (v : V), Dp K F v d → Dp K F' v d
  | .none, _, r => by cases r; exact .non
  | .bool b, _, r => by cases r; exact .bl b
  | .int b, _, r => by cases r; exact .int b
  | .str b, _, r => by cases r; exact .str b
  | .list ds, _, r => by
    cases r with
    | lst s a => exact .lst (h.seq s) (dpAll_mono h ds _ a)
  | .tuple ds, _, r => by
    cases r with
    | tup s a => exact .tup (sqT_mono h s) (dpAll_mono h ds _ a)
  | .dict kvs, _, r => nomatch r
theorem dpAll_mono {F F' : Hp} (h : Same F F') : ∀ (ds : List PyData) (vs : List V), DpAll K F vs ds → DpAll K F' vs ds
  | [], _, r => by cases r; exact .nil
  | d :: ds, _, r => by
    cases r with
    | cons a b => exact .cons (dp_mono h d _ a) (dpAll_mono h ds _ b)
end
/-- data of any kind, at most n deep -/
abbrev tAny (K : PySem.W.Frag) (n : Nat) : Ty K := ⟨PyData, fun F v d => Dp K F v d ∧ d.canLay0 = true ∧ d.depth ≤ n, fun h r => ⟨dp_mono h _ _ r.1, r.2⟩⟩
theorem dpAll_paired {F : Hp} {n : Nat} : ∀ {vs : List V} {ds : List PyData}, DpAll K F vs ds → PyData.canLayAll0 ds = true → PyData.depthAll ds ≤ n → Paired ((tAny K n).rep F) vs ds
  | _, _, .nil, _, _ => .nil
  | _, _, .cons (d := d) (ds := ds) a b, l, m => by
    have l2 : (PyData.canLay0 d && PyData.canLayAll0 ds) = true := l
    have m2 : max d.depth (PyData.depthAll ds) ≤ n := m
    rw [Bool.and_eq_true] at l2
    exact .cons ⟨a, l2.1, by omega⟩ (dpAll_paired b l2.2 (by omega))
theorem paired_dpAll {F : Hp} {n : Nat} : ∀ {vs : List V} {ds : List PyData}, Paired ((tAny K n).rep F) vs ds → DpAll K F vs ds ∧ PyData.canLayAll0 ds = true ∧ PyData.depthAll ds ≤ n
  | _, _, .nil => ⟨.nil, rfl, Nat.zero_le _⟩
  | _, _, .cons r t => by
    obtain ⟨h1, h2, h3⟩ := paired_dpAll t
    refine ⟨.cons r.1 h1, ?_, ?_⟩
    · show (PyData.canLay0 _ && PyData.canLayAll0 _) = true
      rw [r.2.1, h2]; rfl
    · show max _ _ ≤ n
      have := r.2.2
      omega
/-- the items of a list, of a tuple -/
theorem any_lst {F : Hp} {n : Nat} {v : V} {ds : List PyData} (r : (tAny K n).rep F v (.list ds)) : ∃ a vs, v = .ref a ∧ SqL K F a vs ∧ Paired ((tAny K (n - 1)).rep F) vs ds := by
  obtain ⟨r1, r2, r3⟩ := r
  cases r1 with
  | lst s a =>
    have : PyData.depthAll ds + 1 ≤ n := r3
    exact ⟨_, _, rfl, s, dpAll_paired a r2 (by omega)⟩
theorem any_tup {F : Hp} {n : Nat} {v : V} {ds : List PyData} (r : (tAny K n).rep F v (.tuple ds)) : ∃ a vs, v = .ref a ∧ SqT K F a vs ∧ Paired ((tAny K (n - 1)).rep F) vs ds := by
  obtain ⟨r1, r2, r3⟩ := r
  cases r1 with
  | tup s a =>
    have : PyData.depthAll ds + 1 ≤ n := r3
    exact ⟨_, _, rfl, s, dpAll_paired a r2 (by omega)⟩
theorem tyx_of {F H : Hp} {v : V} {d : PyData} (sm : Same F H) (r : Dp K F v d) : TyX K H v (.type (kindD d)) := by
  cases r with
  | non => exact .base .non
  | bl b => exact .base (.bl b)
  | int i => exact .base (.int i)
  | str x => exact .base (.str x)
  | lst s a =>
    rcases s with (e | ⟨o, e⟩) | ⟨o, its, n, e, c, _⟩
    · exact .base (.lst (sm _ _ e))
    · exact .base (.frz (sm _ _ e))
    · exact .kList e c
  | tup s a =>
    rcases s with (e | ⟨o, e⟩) | ⟨o, its, n, e, c, _⟩
    · exact .base (.tup (sm _ _ e))
    · exact .fTuple (sm _ _ e)
    · exact .kTuple e c
theorem dead_pe {X : Cx} {e : Expr} : PE X e (fun _ _ _ => False) := ⟨fun _ _ _ _ _ _ h => h.elim⟩
end
section
variable {K : PySem.W.Frag} {X : Cx} {S R R' : Type} {Δ Δ1 Δ2 Δ3 : Ctx K S} {e a b tg : Expr} {es elts : List Expr} {pos p' px apos : Pos} {τ τ1 τ2 L : Ty K} {ω : OTy K} {ms m1 m2 : List Nat} {c1 c2 cs : List (S → Prop)} {ta tb : TE} {tl : TA} {i j n m : Nat} {x : Str} {fm : Fm K R'} {sts : List Stmt}
/-- an expression that is not reached -/
theorem DX.dead {f : S → τ.α} : DX K X Δ e τ [] [fun _ => False] Δ f (fun _ _ _ => False) := ⟨Diff.refl, dead_pe, fun s F H σ hh sm hc Q q => hc.1.elim⟩
theorem DR.dead {fm : Fm K R} {f : S → R} : DR K X fm Δ sts [fun _ => False] f := ⟨fun _ _ _ => False, ⟨fun _ _ _ _ _ _ h => h.elim⟩, fun s F H σ hh sm hc D q => hc.1.elim⟩
/-- what is told is told as data of any kind -/
theorem DX.toA {d : DF τ.α} {f : S → τ.α} (h : Dat τ d) (he : DX K X Δ e τ ms cs Δ1 f ta) (hn : d.n ≤ n) : DX K X Δ e (tAny K n) ms cs Δ1 (fun s => d.toD (f s)) ta :=
  ⟨he.1, he.2.1, fun s F H σ hh sm hc Q q => he.2.2 s F H σ hh sm hc Q fun v F1 H1 g hh1 r => q v F1 H1 g hh1 ⟨h.dp r, h.lay r, Nat.le_trans (h.pl.dep _) hn⟩⟩
theorem DX.anyUp {f : S → PyData} (he : DX K X Δ e (tAny K m) ms cs Δ1 f ta) (hn : m ≤ n) : DX K X Δ e (tAny K n) ms cs Δ1 f ta :=
  ⟨he.1, he.2.1, fun s F H σ hh sm hc Q q => he.2.2 s F H σ hh sm hc Q fun v F1 H1 g hh1 r => q v F1 H1 g hh1 ⟨r.1, r.2.1, Nat.le_trans r.2.2 hn⟩⟩
/-- a list of such data -/
theorem DX.anyL {f : S → List PyData} (he : DX K X Δ e (tList (tAny K n)) ms cs Δ1 f ta) : DX K X Δ e (tAny K (n + 1)) ms cs Δ1 (fun s => .list (f s)) ta :=
  ⟨he.1, he.2.1, fun s F H σ hh sm hc Q q => he.2.2 s F H σ hh sm hc Q fun v F1 H1 g hh1 ⟨a, vs, ev, ea, pr, z⟩ => by
    obtain ⟨h1, h2, h3⟩ := paired_dpAll pr
    exact q v F1 H1 g hh1 ⟨by rw [ev]; exact .lst (.inl (.inl ea)) h1, h2, Nat.succ_le_succ h3⟩⟩
/-! #### isinstance -/
theorem DX.isiA {T2 : String} {r : PyData → Bool} {y : Str} {f : S → PyData} {py : Pos} (he : DX K X Δ e (tAny K n) ms c1 Δ1 f ta) (hb : ∀ d, kitB (kindD d) T2 = some (r d)) (hm : X.mg "isinstance" = none) (hm2 : X.mg y = none) (hv2 : bootBuiltins y = some (.type T2)) (hn2 : y ≠ "__name__" := by decide) (hd2 : (y == ("__debug__" : Str)) = false := by decide) (hK : X.K = K := by rfl) (hg : Gl X "isinstance" := by rfl) (hg2 : Gl X y := by rfl)
    (hs : starEach [e, .Name y py] X.env = (false, eval e X.env) :: starEach [.Name y py] X.env := by rfl) (hs2 : starEach [.Name y py] X.env = (false, eval (.Name y py) X.env) :: starEach [] X.env := by rfl) (hpl : (backTo pos (starEach [.Name y py] X.env)).any (·.1) = false := by rfl) :
    DX K X Δ (.Call (.Name "isinstance" px) [e, .Name y py] [] pos) (tBool K) ms c1 Δ1 (fun s => r (f s)) (tCB (rIsi K) (tCons ta (tCons (tC (.ty T2)) tNil))) := by
  subst hK
  obtain ⟨d, p, q1⟩ := he
  refine ⟨d, pe_callB call_isi hg hm (by decide +kernel) (pa_cons p (pa_cons (pe_bltn hg2 hm2 hv2 rfl hn2 hd2) pa_nil hs2) hs) (by decide) (by decide) hs hpl, fun s F H σ hh sm hc Q q => ?_⟩
  exact q1 s F H σ hh sm hc _ fun v F1 H1 g1 hh1 r1 => ⟨v, .ty T2, .type (kindD (f s)), .type T2, r (f s), rfl, .ty T2, tyx_of g1.fh r1.1, kit_ty (hb (f s)), q _ F1 H1 g1 hh1 rfl⟩
/-- isinstance(x, (T1, T2)) -/
theorem DX.isiA2 {T1 T2 : String} {r1 r2 r : PyData → Bool} {y1 y2 : Str} {f : S → PyData} {py1 py2 pt : Pos} {kt : Nat} (he : DX K X Δ e (tAny K n) ms c1 Δ1 f ta) (hb1 : ∀ d, kitB (kindD d) T1 = some (r1 d)) (hb2 : ∀ d, kitB (kindD d) T2 = some (r2 d)) (hr : ∀ d, (r1 d || r2 d) = r d)
    (hm : X.mg "isinstance" = none) (hm1 : X.mg y1 = none) (hm2 : X.mg y2 = none) (hv1 : bootBuiltins y1 = some (.type T1)) (hv2 : bootBuiltins y2 = some (.type T2)) (hn1 : y1 ≠ "__name__" := by decide) (hd1 : (y1 == ("__debug__" : Str)) = false := by decide) (hn2 : y2 ≠ "__name__" := by decide) (hd2 : (y2 == ("__debug__" : Str)) = false := by decide) (hK : X.K = K := by rfl) (hg : Gl X "isinstance" := by rfl) (hg1 : Gl X y1 := by rfl) (hg2 : Gl X y2 := by rfl)
    (hs : starEach [e, .Tuple [.Name y1 py1, .Name y2 py2] kt pt] X.env = (false, eval e X.env) :: starEach [.Tuple [.Name y1 py1, .Name y2 py2] kt pt] X.env := by rfl) (hs2 : starEach [.Tuple [.Name y1 py1, .Name y2 py2] kt pt] X.env = (false, eval (.Tuple [.Name y1 py1, .Name y2 py2] kt pt) X.env) :: starEach [] X.env := by rfl)
    (hs3 : starEach [.Name y1 py1, .Name y2 py2] X.env = (false, eval (.Name y1 py1) X.env) :: starEach [.Name y2 py2] X.env := by rfl) (hs4 : starEach [.Name y2 py2] X.env = (false, eval (.Name y2 py2) X.env) :: starEach [] X.env := by rfl) (hpl : (backTo pos (starEach [.Tuple [.Name y1 py1, .Name y2 py2] kt pt] X.env)).any (·.1) = false := by rfl) :
    DX K X Δ (.Call (.Name "isinstance" px) [e, .Tuple [.Name y1 py1, .Name y2 py2] kt pt] [] pos) (tBool K) ms c1 Δ1 (fun s => r (f s)) (tCB (rIsiT K) (tCons ta (tCons (L2.tTup (tCons (tC (.ty T1)) (tCons (tC (.ty T2)) tNil))) tNil))) := by
  subst hK
  obtain ⟨d, p, q1⟩ := he
  refine ⟨d, pe_callB call_isiT hg hm (by decide +kernel) (pa_cons p (pa_cons (pe_tup (pa_cons (pe_bltn hg1 hm1 hv1 rfl hn1 hd1) (pa_cons (pe_bltn hg2 hm2 hv2 rfl hn2 hd2) pa_nil hs4) hs3)) pa_nil hs2) hs) (by decide) (by decide) hs hpl, fun s F H σ hh sm hc Q q => ?_⟩
  refine q1 s F H σ hh sm hc _ fun v F1 H1 g1 hh1 w => ⟨by show 2 ≤ sizeLine; decide, fun a na => ?_⟩
  have g2 : Gr No F1 H1 (upd F1 a (.tup [.ty T1, .ty T2])) (upd H1 a (.tup [.ty T1, .ty T2])) := Gr.new g1.fh na
  refine ⟨v, a, _, .type (kindD (f s)), [.type T1, .type T2], r (f s), rfl, upd_same, .cons (.ty T1) (.cons (.ty T2) .nil), tyx_of g2.fh (dp_mono g2.ff _ _ w.1), ?_, q _ _ _ (g1.trans g2.of0) (hh1.grow g2) rfl⟩
  rw [← hr]
  exact k2_of (hb1 (f s)) (hb2 (f s))
/-- len -/
theorem DX.lenA {f : S → PyData} (hm : X.mg "len" = none) (he : DX K X Δ e (tAny K n) ms c1 Δ1 f ta) (hK : X.K = K := by rfl) (hg : Gl X "len" := by rfl) (hs : starEach [e] X.env = (false, eval e X.env) :: starEach [] X.env := by rfl) (hpl : (backTo pos (starEach [] X.env)).any (·.1) = false := by rfl) :
    DX K X Δ (.Call (.Name "len" px) [e] [] pos) (tInt K) ms (c1 ++ [fun s => isSeqD (f s) = true]) Δ1 (fun s => lenD (f s)) (tCB (fun xs H Q => ∃ p ys, xs = [.ref p] ∧ (SqL K H p ys ∨ SqT K H p ys) ∧ Q (.int ys.length) H) (tCons ta tNil)) := by
  subst hK
  exact DX.call1 (τ1 := tInt X.K) (cc := [fun d => isSeqD d = true]) (g := lenD) call_len_seq (fun v x F H sm r hc Q q => by
    cases x with
    | list ds =>
      obtain ⟨a, vs, ev, sq, pr⟩ := any_lst r
      exact ⟨a, vs, by rw [ev], .inl (sm.seq sq), q _ F H (Gr.refl sm) (by rw [pr.length]; rfl)⟩
    | tuple ds =>
      obtain ⟨a, vs, ev, sq, pr⟩ := any_tup r
      exact ⟨a, vs, by rw [ev], .inr (sqT_mono sm sq), q _ F H (Gr.refl sm) (by rw [pr.length]; rfl)⟩
    | none => exact absurd hc.1 Bool.false_ne_true
    | bool b => exact absurd hc.1 Bool.false_ne_true
    | int b => exact absurd hc.1 Bool.false_ne_true
    | str b => exact absurd hc.1 Bool.false_ne_true
    | dict b => exact absurd hc.1 Bool.false_ne_true) hm PySem.boot_len he hg (by decide) (by decide) hs hpl
/-! #### == -/
theorem r2_eqA (hn : n ≤ 64) (hm : m ≤ 64) : R2ok K (rEqD K) (tAny K n) (tAny K m) (tBool K) [] (fun x y => PyData.eqv x y) := fun x y v u F H sm r1 r2 _ Q q => by
  refine ⟨_, _, dp_mono sm _ _ r1.1, dp_mono sm _ _ r2.1, ?_, ?_, q _ F H (Gr.refl sm) rfl⟩
  · unfold SeqAt.shaped
    rw [r1.2.1, Bool.true_and]
    exact decide_eq_true (Nat.le_trans r1.2.2 hn)
  · unfold SeqAt.shaped
    rw [r2.2.1, Bool.true_and]
    exact decide_eq_true (Nat.le_trans r2.2.2 hm)
section
variable {k : Nat} {ga gb : S → PyData}
theorem DX.eqA (hr : Room k X.A) (ha : DX K X Δ a (tAny K n) m1 c1 Δ1 ga ta) (hb : DX K X Δ1 b (tAny K m) m2 c2 Δ2 gb tb) (hn : n ≤ 64 := by decide) (hm : m ≤ 64 := by decide) (hK : X.K = K := by rfl) : DX K X Δ (.Compare a [.Eq] [b] pos) (tBool K) (m1 ++ m2) (c1 ++ (c2 ++ [])) Δ2 (fun s => PyData.eqv (ga s) (gb s)) (tOp (rEqD K) ta tb) := by
  subst hK
  exact DX.bin (r2_eqA hn hm) ha hb fun p q => pe_cmpR (op_eqD hr.units) p q (nomark _)
theorem DT.eqA (hr : Room k X.A) (ha : DX K X Δ a (tAny K n) m1 c1 Δ1 ga ta) (hb : DX K X Δ1 b (tAny K m) m2 c2 Δ2 gb tb) (hn : n ≤ 64 := by decide) (hm : m ≤ 64 := by decide) (hK : X.K = K := by rfl) : DT K X Δ (.Compare a [.Eq] [b] pos) (m1 ++ m2) (c1 ++ (c2 ++ [])) Δ2 (fun s => PyData.eqv (ga s) (gb s)) (tTest (tOp (rEqD K) ta tb)) := by
  subst hK
  exact DT.bin (r2_eqA hn hm) ha hb fun p q => pt_cmpR (op_eqD hr.units) p q (nomark _)
end
theorem any_non {F : Hp} {v : V} {d : PyData} (r : (tAny K n).rep F v d) : decide (v = .non) = isNoneD d := by
  obtain ⟨r, _⟩ := r
  cases r with
  | non => rfl
  | _ => rfl
/-- x is None -/
theorem DX.isNA {f : S → PyData} (ha : DX K X Δ a (tAny K n) m1 c1 Δ1 f ta) {j : Nat} : DX K X Δ (.Compare a [.Is] [.Constant .none j p'] pos) (tBool K) m1 c1 Δ1 (fun s => isNoneD (f s)) (tIsN ta) := by
  obtain ⟨d1, pa, ra⟩ := ha
  exact ⟨d1, pe_cmp (pc_isN pa) rfl, fun s F H σ hh sm hc Q q => ra s F H σ hh sm hc _ fun v F1 H1 g1 hh1 r1 => q _ F1 H1 g1 hh1 (congrArg V.bl (any_non r1))⟩
theorem DT.isNA {f : S → PyData} (ha : DX K X Δ a (tAny K n) m1 c1 Δ1 f ta) {j : Nat} : DT K X Δ (.Compare a [.Is] [.Constant .none j p'] pos) m1 c1 Δ1 (fun s => isNoneD (f s)) (tB (tIsN ta)) := by
  obtain ⟨d1, pa, ra⟩ := ha
  exact ⟨d1, pt_cmp (pc_isN pa) rfl, fun s F H σ hh sm hc Q q => ra s F H σ hh sm hc _ fun v F1 H1 g1 hh1 r1 => ⟨_, congrArg V.bl (any_non r1), q F1 H1 g1 hh1⟩⟩
/-! #### zip of two lists, of two tuples -/
theorem walks_zipT {σ' : Ty K} {F0 : Hp} {a b : Addr} {vs ws : List V} {xs : List τ.α} {ys : List σ'.α} (h : SqT K F0 a vs) (p : Paired (τ.rep F0) vs xs) (z : xs.length ≤ sizeLine) (h2 : SqT K F0 b ws) (p2 : Paired (σ'.rep F0) ws ys) : Walks K (RZ.ItzT K a b) F0 (tTp [τ, σ']) (List.zip xs ys) where
  go := fun i x F H s1 s2 e => by
    obtain ⟨e1, e2⟩ := zip_get (α := τ.α) (β := σ'.α) xs ys i x e
    obtain ⟨v, ev, rv⟩ := paired_at p e1
    obtain ⟨w, ew, rw'⟩ := paired_at p2 e2
    refine ⟨⟨vs, ws, v, w, sqT_mono s2 (sqT_mono s1 h), sqT_mono s2 (sqT_mono s1 h2), ev, ew⟩, fun v' H' ⟨T, y1, y2, r1, r2, r3, r4, r5⟩ => ?_⟩
    have e5 := r4 vs (sqT_mono s2 (sqT_mono s1 h))
    rw [ev] at e5; cases e5
    have e6 := r5 ws (sqT_mono s2 (sqT_mono s1 h2))
    rw [ew] at e6; cases e6
    subst r1 r3
    have sf := s1.trans (same_new (o := .tup [v, w]) (s2.free r2))
    exact ⟨_, new_tup s2 r2, T, _, rfl, upd_same, v, [w], rfl, τ.mono sf rv, w, rfl, σ'.mono sf rw'⟩
  stop := fun i F H s1 s2 e => by
    have e := (zip_len (α := τ.α) (β := σ'.α) xs ys) ▸ e
    exact ⟨vs, ws, sqT_mono s2 (sqT_mono s1 h), sqT_mono s2 (sqT_mono s1 h2), by rw [p.length, p2.length]; omega⟩
  len := (zip_len (α := τ.α) (β := σ'.α) xs ys).symm ▸ (by omega)
theorem DI.zipA {f g : S → PyData} {tpos : Pos} {kk : Nat} (hm : X.mg "zip" = none) (he : DX K X Δ a (tAny K n) m1 c1 Δ1 f ta) (hb : DX K X Δ1 b (tAny K m) m2 c2 Δ2 g tb) (hg : Gl X "zip" := by rfl) (hs : starEach [a, b] X.env = (false, eval a X.env) :: starEach [b] X.env := by rfl) (hs2 : starEach [b] X.env = (false, eval b X.env) :: starEach [] X.env := by rfl)
    (hpl : (backTo pos (starEach [b] X.env)).any (·.1) = false := by rfl) (hK : X.K = K := by rfl) : DI K X Δ (.Tuple elts kk tpos) (.Call (.Name "zip" px) [a, b] [] pos) (tTp [tAny K (n - 1), tAny K (m - 1)]) (m1 ++ m2) (c1 ++ (c2 ++ [fun s => alikeD (f s) (g s) = true, fun s => (itemsD (f s)).length ≤ sizeLine])) Δ2 (fun s => List.zip (itemsD (f s)) (itemsD (g s))) (RZ.iZipA K (tCons ta (tCons tb tNil))) := by
  subst hK
  obtain ⟨d1, p, r⟩ := he
  obtain ⟨d2, p2, r2⟩ := hb
  refine ⟨d1.trans d2, RZ.pi_zipA hg hm (pa_cons p (pa_cons p2 pa_nil hs2) hs) hs hpl, fun s F H σ hh sm hc R q => ?_⟩
  obtain ⟨k1, k2⟩ := conj_app hc
  obtain ⟨k2, k3, k4, _⟩ := conj_app k2
  refine r s F H σ hh sm k1 _ fun v F1 H1 g1 hh1 r1 => r2 s F1 H1 σ hh1 g1.fh k2 _ fun w F2 H2 g2 hh2 r3 => ?_
  have r1' := (tAny X.K n).mono g2.ff r1
  have g12 := (g1.mono (msAt_l (m2 := m2))).trans (g2.mono (msAt_r (m1 := m1)))
  have q' : ∀ J F' H', Gr (MsAt (m1 ++ m2) σ) F H F' H' → Holds Δ2 s F' H' σ → Walks X.K J F' (tTp [tAny X.K (n - 1), tAny X.K (m - 1)]) (List.zip (itemsD (f s)) (itemsD (g s))) → R J H' := q
  clear q
  have k3' : alikeD (f s) (g s) = true := k3
  have k4' : (itemsD (f s)).length ≤ sizeLine := k4
  clear k3 k4
  generalize f s = df at *
  generalize g s = dg at *
  cases df with
  | list xs => cases dg with
    | list ys =>
      obtain ⟨a1, vs, ev, sq, pr⟩ := any_lst r1'
      obtain ⟨b1, ws, ew, sq2, pr2⟩ := any_lst r3
      exact ⟨a1, b1, vs, ws, by rw [ev, ew], .inl ⟨g2.fh.seq sq, g2.fh.seq sq2, q' _ F2 H2 g12 hh2 (walks_zip sq pr k4' sq2 pr2)⟩⟩
    | _ => exact absurd k3' Bool.false_ne_true
  | tuple xs => cases dg with
    | tuple ys =>
      obtain ⟨a1, vs, ev, sq, pr⟩ := any_tup r1'
      obtain ⟨b1, ws, ew, sq2, pr2⟩ := any_tup r3
      exact ⟨a1, b1, vs, ws, by rw [ev, ew], .inr ⟨sqT_mono g2.fh sq, sqT_mono g2.fh sq2, q' _ F2 H2 g12 hh2 (walks_zipT sq pr k4' sq2 pr2)⟩⟩
    | _ => exact absurd k3' Bool.false_ne_true
  | _ => exact absurd k3' Bool.false_ne_true
end
end Dx

/-! Dx, part R: a comprehension whose element changes one own list; list(range(..)); a, b, .. = a list. -/
namespace Dx
open PySem PySem.Spec PyProof PyProof.Rows L2
section
variable {K : PySem.W.Frag} {S : Type} {Δ : Ctx K S} {s : S} {F H F' H' : Hp} {σ : L2.St} {i : Nat} {ω : OTy K}
/-- the object of the slot i was changed, other things grew -/
theorem Holds.growM {p : Addr} {u : HO} {f f' : S → ω.τ.α} (hh : Holds Δ s F H σ) (h : Δ[i]? = some (.ow ω f)) (hσ : σ[i]? = some (some (.ref p))) (g : Gr (fun a => a = p) F H F' H') (nf : F' p = none) (hp : H' p = some u) (o : ω.own F' u (f' s)) : Holds (Δ.set i (.ow ω f')) s F' H' σ where
  len := by rw [List.length_set, hh.len]
  at_ := fun j sl o' e1 e2 => by
    rcases get_set1 e1 with ⟨rfl, rfl, _⟩ | ⟨n1, e1⟩
    · rw [hσ] at e2; cases e2
      exact ⟨p, u, rfl, nf, hp, o⟩
    · have r := hh.at_ j sl o' e1 e2
      cases sl with
      | dead => trivial
      | fz τ k => obtain ⟨v, e, q⟩ := r; exact ⟨v, e, τ.mono g.ff q⟩
      | ow ω2 k =>
        obtain ⟨p2, u2, e4, n2, hp2, o2⟩ := r
        subst e4
        have ne : p2 ≠ p := fun z => hh.sep i j ω ω2 f k p n1 h e1 hσ (by rw [e2, z])
        refine ⟨p2, u2, rfl, ?_, g.keep _ _ hp2 ne, ω2.mono g.ff o2⟩
        cases x : F' p2 with
        | none => rfl
        | some o' =>
          rcases g.fresh p2 o' x with z | z
          · rw [n2] at z; cases z
          · rw [hp2] at z; cases z
  sep := fun j k ω1 ω2 g g' q ne e1 e2 e3 => by
    have ok : ∀ {j : Nat} {ω1 : OTy K} {g : S → ω1.τ.α}, (Δ.set i (.ow ω f'))[j]? = some (.ow ω1 g) → ∃ (ω' : OTy K) (g' : S → ω'.τ.α), Δ[j]? = some (.ow ω' g') := fun {j ω1 g} e => by
      rcases get_set1 e with ⟨rfl, _, _⟩ | ⟨_, e⟩
      · exact ⟨_, _, h⟩
      · exact ⟨_, _, e⟩
    obtain ⟨_, _, k1⟩ := ok e1
    obtain ⟨_, _, k2⟩ := ok e2
    exact hh.sep j k _ _ _ _ q ne k1 k2 e3
end
/-- the items made along -/
def lcE {M α β : Type} (fe : M → α → β) (st : M → α → M) : List α → M → List β
  | [], _ => []
  | x :: xs, m => fe m x :: lcE fe st xs (st m x)
@[irreducible] def LcE {M α β : Type} (fe : M → α → β) (st : M → α → M) (xs : List α) (m : M) : List β := lcE fe st xs m
theorem LcE_eq {M α β : Type} (fe : M → α → β) (st : M → α → M) (xs : List α) (m : M) : LcE fe st xs m = lcE fe st xs m := by unfold LcE; rfl
theorem lcE_len {M α β : Type} (fe : M → α → β) (st : M → α → M) : ∀ (xs : List α) (m : M), (lcE fe st xs m).length = xs.length
  | [], _ => rfl
  | x :: xs, m => by rw [lcE, List.length_cons, List.length_cons, lcE_len fe st xs]
theorem loopF_app {M α : Type} (st : M → α → M) : ∀ (xs ys : List α) (m : M), loopF st (xs ++ ys) m = loopF st ys (loopF st xs m)
  | [], _, _ => rfl
  | x :: xs, ys, m => by show loopF st (xs ++ ys) (st m x) = _; rw [loopF_app st xs ys]; rfl
theorem lcE_app {M α β : Type} (fe : M → α → β) (st : M → α → M) : ∀ (xs ys : List α) (m : M), lcE fe st (xs ++ ys) m = lcE fe st xs m ++ lcE fe st ys (loopF st xs m)
  | [], _, _ => rfl
  | x :: xs, ys, m => by show fe m x :: lcE fe st (xs ++ ys) (st m x) = _; rw [lcE_app fe st xs ys]; rfl
theorem loopC_at {M α : Type} (c : M → α → Prop) (st : M → α → M) : ∀ (xs : List α) (m : M) (i : Nat) (x : α), loopC c st xs m → xs[i]? = some x → c (loopF st (xs.take i) m) x
  | [], _, _, _, _, e => by simp at e
  | y :: xs, m, 0, x, h, e => by simp at e; subst e; exact h.1
  | y :: xs, m, i + 1, x, h, e => loopC_at c st xs (st m y) i x h.2 (by simpa using e)
section
variable {K : PySem.W.Frag} {X : Cx} {S R : Type} {Δ Δ1 Δ2 : Ctx K S} {st : Stmt} {e a b c tg iter elt : Expr} {es ifs : List Expr} {pos p' px apos : Pos} {τ τe τ1 τ2 L : Ty K} {ω ω1 ω2 : OTy K} {mus ms m1 m2 me is vs : List Nat} {c1 c2 c3 cs : List (S → Prop)} {ta tb te : TE} {tt tx : TT} {tl : TA} {i j : Nat} {x y : Str}
/-- the head of a turn: the slot i holds the state -/
def ctxM (Δ1 : Ctx K S) (i : Nat) (ω : OTy K) : Ctx K (S × ω.τ.α) := (Ctx.comap (T := S × ω.τ.α) Prod.fst Δ1).set i (.ow ω Prod.snd)
theorem ctxM_holds {s : S} {m : ω.τ.α} {F H : Hp} {σ : L2.St} (hh : Holds (Δ1.set i (.ow ω fun _ => m)) s F H σ) : Holds (ctxM Δ1 i ω) (s, m) F H σ := by
  refine AsC.holds (Δ := Δ1.set i (.ow ω fun _ => m)) (s := s) ⟨by simp [ctxM], fun k sl' e => ?_⟩ hh
  unfold ctxM at e
  rcases get_set1 e with ⟨rfl, rfl, hl⟩ | ⟨n, e⟩
  · exact .inr (.inr ⟨ω, fun _ => m, _, List.getElem?_set_self (by simpa using hl), rfl, rfl⟩)
  · rw [List.getElem?_map] at e
    obtain ⟨sl, q1, q2⟩ := Option.map_eq_some_iff.mp e
    subst q2
    rw [List.getElem?_set_ne n]
    cases sl with
    | dead => exact .inl rfl
    | fz τ f => exact .inr (.inl ⟨τ, f, _, q1, rfl, rfl⟩)
    | ow ω2 f => exact .inr (.inr ⟨ω2, f, _, q1, rfl, rfl⟩)
theorem lcE_sem {Δb Δb' : Ctx K ((S × ω.τ.α) × τ.α)} {fx : S → List τ.α} {wi : TI} {g : TG} {ce : List ((S × ω.τ.α) × τ.α → Prop)} {fe : (S × ω.τ.α) × τ.α → τe.α} {fm : (S × ω.τ.α) × τ.α → ω.τ.α} {f0 : S → ω.τ.α}
    (d1 : Diff ms Δ Δ1) (hi0 : Δ1[i]? = some (.ow ω f0)) (hvs : i ∉ vs)
    (ri : ∀ s F H σ, Holds Δ s F H σ → Same F H → Conj c1 s → ∀ R : It → Hp → Prop, (∀ J F' H', Gr (MsAt ms σ) F H F' H' → Holds Δ1 s F' H' σ → Walks K J F' τ (fx s) → R J H') → wi σ H R)
    (lg : Δb.length = (Ctx.comap (T := (S × ω.τ.α) × τ.α) Prod.fst (killL (ctxM Δ1 i ω) vs)).length) (rg : ∀ (s : (S × ω.τ.α) × τ.α) F H σ v, Holds (Ctx.comap (T := (S × ω.τ.α) × τ.α) Prod.fst (killL (ctxM Δ1 i ω) vs)) s F H σ → Same F H → τ.rep F v s.2 → ∀ Q : L2.St → Hp → Prop, (∀ σ1, Holds Δb s F H σ1 → (∀ a, Own Δb σ1 a → Own (Ctx.comap (T := (S × ω.τ.α) × τ.α) Prod.fst (killL (ctxM Δ1 i ω) vs)) σ a) → (∀ k, k ∉ is → σ1[k]? = σ[k]?) → Q σ1 H) → g v σ H Q)
    (re : ∀ s F H σ, Holds Δb s F H σ → Same F H → Conj ce s → ∀ Q : VK, (∀ v F' H', Gr (MsAt me σ) F H F' H' → Holds Δb' s F' H' σ → τe.rep F' v (fe s) → Q v H') → te σ H Q)
    (eb : Δb'[i]? = some (.ow ω fm)) (hme : ∀ k ∈ me, k = i) (his : ∀ j ∈ is, j ∈ vs) :
    ∀ s F H σ, Holds Δ s F H σ → Same F H → Conj (c1 ++ [fun s => loopC (fun m x => Conj ce ((s, m), x)) (fun m x => fm ((s, m), x)) (fx s) (f0 s)]) s → ∀ Q : VK, (∀ p u F' H', Gr (MsAt (ms ++ [i]) σ) F H F' H' → Holds (Δ1.set i (.ow ω fun s => LoopF (fun m x => fm ((s, m), x)) (fx s) (f0 s))) s F' H' σ → H p = none → F' p = none → H' p = some u → (oList τe).own F' u (LcE (fun m x => fe ((s, m), x)) (fun m x => fm ((s, m), x)) (fx s) (f0 s)) → Q (.ref p) H') → tLc wi g tYes te vs σ H Q := by
  intro s F H σ hh sm hcs Q q
  obtain ⟨k1, k2, _⟩ := conj_app hcs
  rw [LcE_eq] at q
  refine ri s F H σ hh sm k1 _ fun J F1 H1 g1 hh1 wk D hD => ?_
  have nD : F1 D = none := g1.fh.free hD
  have hil : i < σ.length := by rw [hh1.len]; exact (List.getElem?_eq_some_iff.mp hi0).1
  obtain ⟨o0, ho0⟩ : ∃ o, σ[i]? = some o := ⟨_, List.getElem?_eq_getElem hil⟩
  obtain ⟨p0, u0, ep0, np0, hp0, ow0⟩ := hh1.at_ i _ o0 hi0 ho0
  have hσ : σ[i]? = some (some (.ref p0)) := by rw [ho0, ep0]
  have pD : p0 ≠ D := fun z => by rw [z, hD] at hp0; cases hp0
  let ST : ω.τ.α → τ.α → ω.τ.α := fun m x => fm ((s, m), x)
  let FE : ω.τ.α → τ.α → τe.α := fun m x => fe ((s, m), x)
  have hset : ∀ (f : S → ω.τ.α), (Δ1.set i (.ow ω f))[i]? = some (.ow ω f) := fun f => List.getElem?_set_self (List.getElem?_eq_some_iff.mp hi0).1
  have h00 : Holds (Δ1.set i (.ow ω fun _ => f0 s)) s F1 (upd H1 D (.lst [])) σ := by
    refine Holds.growM (f := f0) hh1 hi0 hσ ((Gr.newO g1.fh hD).of0) np0 (by rw [upd_ne pD]; exact hp0) ow0
  refine ⟨fun n k H' => ∃ F' acc, k = (fx s).length - n ∧ n ≤ (fx s).length ∧ Gr (fun a => a = D ∨ a = p0) F1 (upd H1 D (.lst [])) F' H' ∧ F' D = none ∧ H' D = some (.lst acc) ∧ Paired (τe.rep F') acc (lcE FE ST ((fx s).take n) (f0 s)) ∧ Holds (Δ1.set i (.ow ω fun _ => loopF ST ((fx s).take n) (f0 s))) s F' H' σ,
    ⟨_, F1, [], rfl, Nat.zero_le _, Gr.refl (fun a o z => by rw [upd_ne (ne_of_none z nD)]; exact g1.fh a o z), nD, upd_same, by rw [List.take_zero]; exact .nil, by rw [List.take_zero]; exact h00⟩, ?_⟩
  rintro n k H' ⟨F', acc, rfl, hi, g', n', e', pr, hl⟩
  by_cases hlt : n < (fx s).length
  · refine .inr ?_
    have ex : (fx s)[n]? = some (fx s)[n] := List.getElem?_eq_getElem hlt
    obtain ⟨w1, w2⟩ := wk.go n _ F' H' g'.ff g'.fh ex
    have kx : Conj ce ((s, loopF ST ((fx s).take n) (f0 s)), (fx s)[n]) := loopC_at (fun m x => Conj ce ((s, m), x)) ST (fx s) (f0 s) n _ k2 ex
    refine ⟨w1, fun H2 => ∃ F2 acc2, Gr (fun a => a = D ∨ a = p0) F1 (upd H1 D (.lst [])) F2 H2 ∧ F2 D = none ∧ H2 D = some (.lst acc2) ∧ Paired (τe.rep F2) acc2 (lcE FE ST ((fx s).take (n + 1)) (f0 s)) ∧ Holds (Δ1.set i (.ow ω fun _ => loopF ST ((fx s).take (n + 1)) (f0 s))) s F2 H2 σ, fun H2 ⟨F2, acc2, y1, y2, y3, y4, y5⟩ => ⟨_, by omega, F2, acc2, rfl, hlt, y1, y2, y3, y4, y5⟩, fun v H2 hy => ?_⟩
    obtain ⟨F2, g2, rv⟩ := w2 v H2 hy
    have hl2 := hl.grow g2
    have hhk : Holds (Ctx.comap (T := (S × ω.τ.α) × τ.α) Prod.fst (killL (ctxM Δ1 i ω) vs)) ((s, loopF ST ((fx s).take n) (f0 s)), (fx s)[n]) F2 H2 (wipe σ vs) := comap_holds (kill_holds (ctxM_holds hl2))
    refine rg ((s, loopF ST ((fx s).take n) (f0 s)), (fx s)[n]) F2 H2 (wipe σ vs) v hhk g2.fh rv _ fun σ3 hh3 ow3 nx3 => ⟨?_, ?_⟩
    · apply List.ext_getElem?
      intro j
      by_cases hj : j ∈ vs
      · have : ∀ {σ : L2.St} {ws : List Nat}, j ∈ ws → (wipe σ ws)[j]? = if j < σ.length then some none else none := by
          intro σ ws
          induction ws with
          | nil => intro h; cases h
          | cons w ws ih =>
            intro h
            unfold wipe
            by_cases hw : w = j
            · subst hw
              rw [List.getElem?_set, if_pos rfl, wipe_length]
            · rw [List.getElem?_set_ne hw]
              exact ih ((List.mem_cons.mp h).resolve_left fun z => hw z.symm)
        rw [this hj, this hj]
        have l3 : σ3.length = (wipe σ vs).length := by rw [hh3.len, hhk.len]; exact lg
        rw [l3, wipe_length]
      · rw [wipe_out hj, wipe_out hj, nx3 j fun z => hj (his j z), wipe_out hj]
    · show te σ3 H2 _
      have ek : (fx s).take (n + 1) = (fx s).take n ++ [(fx s)[n]] := by rw [List.take_add_one, ex]; rfl
      have σ3i : σ3[i]? = some (some (.ref p0)) := by rw [nx3 i (fun z => hvs (his i z)), wipe_out hvs, hσ]
      refine re _ F2 H2 σ3 hh3 g2.fh kx _ fun w F4 H4 g4 hh4 r4 => ?_
      obtain ⟨p1, u1, ep1, np1, hp1, ow1⟩ := hh4.at_ i _ _ eb σ3i
      cases ep1
      have g4' : Gr (fun a => a = p0) F2 H2 F4 H4 := g4.mono fun a ⟨j, hj, e⟩ => by
        rw [hme j hj, σ3i] at e
        cases e; rfl
      have nD2 : F2 D = none := by
        cases z : F2 D with
        | none => rfl
        | some o =>
          rcases g2.fresh D o z with w | w
          · rw [n'] at w; cases w
          · rw [e'] at w; cases w
      have eD2 := g2.same _ _ e'
      have eD4 := g4'.keep _ _ eD2 (fun z => pD z.symm)
      have nD4 : F4 D = none := by
        cases z : F4 D with
        | none => rfl
        | some o =>
          rcases g4'.fresh D o z with w | w
          · rw [nD2] at w; cases w
          · rw [eD2] at w; cases w
      have ll : acc.length < sizeLine := by
        rw [pr.length, lcE_len, List.length_take]
        have := wk.len
        omega
      have hl4 : Holds (Δ1.set i (.ow ω fun _ => loopF ST ((fx s).take (n + 1)) (f0 s))) s F4 H4 σ := by
        have := Holds.growM (f' := fun _ => loopF ST ((fx s).take (n + 1)) (f0 s)) hl2 (hset _) hσ g4' np1 hp1 (by
          rw [ek, loopF_app]
          exact ow1)
        rwa [List.set_set] at this
      have gup : Gr (fun a => a = D) F4 H4 F4 (upd H4 D (.lst (acc ++ [w]))) := ⟨Same.refl F4, fun a o z => by rw [upd_ne (ne_of_none z nD4)]; exact g4.fh a o z, fun a o z => .inl z, fun a o z nz => by rw [upd_ne nz]; exact z, fun a z => by
          by_cases y : a = D
          · subst y; rw [upd_same] at z; cases z
          · rw [upd_ne y] at z; exact z⟩
      refine ⟨acc, eD4, ll, F4, acc ++ [w], ?_, nD4, upd_same, ?_, ?_⟩
      · exact (g'.trans (g2.of0)).trans ((g4'.mono fun a z => .inr z).trans (gup.mono fun a z => .inl z))
      · rw [ek, lcE_app]
        exact paired_app (paired_mono (fun a b r => τe.mono (g2.ff.trans g4.ff) r) pr) (.cons r4 .nil)
      · refine ⟨hl4.len, fun j sl o e1 e2 => ?_, hl4.sep⟩
        have r := hl4.at_ j sl o e1 e2
        cases sl with
        | dead => trivial
        | fz τ f => exact r
        | ow ω2 f =>
          obtain ⟨p2, u2, e3, n2, h2, o2⟩ := r
          refine ⟨p2, u2, e3, n2, ?_, o2⟩
          rw [upd_ne ?_]
          · exact h2
          · intro z
            subst z
            subst e3
            -- D stood in no slot
            rcases get_set1 e1 with ⟨rfl, _, _⟩ | ⟨nj, e1⟩
            · rw [hσ] at e2; cases e2; exact pD rfl
            · obtain ⟨p3, u3, e4, n3, h3, _⟩ := hh1.at_ j _ _ e1 e2
              cases e4
              rw [hD] at h3; cases h3
  · refine .inl ⟨wk.stop n F' H' g'.ff g'.fh (by omega), ?_⟩
    have ed : (fx s).take n = fx s := List.take_of_length_le (by omega)
    rw [ed] at pr hl
    have back : Gr (fun a => a = p0) F1 H1 F' H' := by
      refine ⟨g'.ff, g'.fh, fun a o z => ?_, fun a o z nz => ?_, fun a z => ?_⟩
      · rcases g'.fresh a o z with w | w
        · exact .inl w
        · by_cases y : a = D
          · subst y; exact .inr hD
          · rw [upd_ne y] at w; exact .inr w
      · have aD : a ≠ D := fun y => by subst y; rw [hD] at z; cases z
        exact g'.keep a o (by rw [upd_ne aD]; exact z) fun w => w.elim aD nz
      · have w := g'.dom a z
        by_cases y : a = D
        · subst y; exact hD
        · rw [upd_ne y] at w; exact w
    have back' : Gr (MsAt [i] σ) F1 H1 F' H' := back.mono fun a z => ⟨i, List.mem_singleton.mpr rfl, by rw [hσ, z]⟩
    refine q D (.lst acc) F' H' ((g1.mono (msAt_l (m2 := [i]))).trans (back'.mono (msAt_r (m1 := ms)))) ?_ (g1.dom D hD) n' e' ⟨acc, rfl, pr, by rw [lcE_len]; exact wk.len⟩
    refine AsC.holds (Δ := Δ1.set i (.ow ω fun _ => loopF ST (fx s) (f0 s))) (s := s) ⟨by simp, fun k sl' e => ?_⟩ hl
    rcases get_set1 e with ⟨rfl, rfl, _⟩ | ⟨nk, e⟩
    · exact .inr (.inr ⟨ω, _, _, hset _, rfl, (LoopF_eq _ _ _).symm⟩)
    · rw [List.getElem?_set_ne nk]
      cases sl' with
      | dead => exact .inl rfl
      | fz τ f => exact .inr (.inl ⟨τ, f, f, e, rfl, rfl⟩)
      | ow ω2 f => exact .inr (.inr ⟨ω2, f, f, e, rfl, rfl⟩)
/-- [elt for tg in iter], elt changes the own list of the slot i -/
theorem DO.lcE {scope : Scope} {own : List (Str × Nat)} (i : Nat) {Δb Δb' : Ctx K ((S × ω.τ.α) × τ.α)} {fx : S → List τ.α} {wi : TI} {g : TG} {ce : List ((S × ω.τ.α) × τ.α → Prop)} {fe : (S × ω.τ.α) × τ.α → τe.α} {fm : (S × ω.τ.α) × τ.α → ω.τ.α} {f0 : S → ω.τ.α} (hN : X.N.Nodup) (hi : DI K X Δ tg iter τ ms c1 Δ1 fx wi) (hi0 : Δ1[i]? = some (.ow ω f0)) (ok : BlkOk X.N X.env.scope scope own) (hvs : i ∉ own.map (·.2))
    (hg : ∀ (s : Shared) (H : Hp) (C : Addr) (cl : List (Str × Addr)) (fp : List Addr), DG K (X.blk s H scope (compEnvC scope cl C X.env) fp) (Ctx.comap (T := (S × ω.τ.α) × τ.α) Prod.fst (killL (ctxM Δ1 i ω) (own.map (·.2)))) tg τ Prod.snd is Δb g)
    (he : ∀ (s : Shared) (H : Hp) (C : Addr) (cl : List (Str × Addr)) (fp : List Addr), DX K (X.blk s H scope (compEnvC scope cl C X.env) fp) Δb elt τe me ce Δb' fe te) (eb : Δb'[i]? = some (.ow ω fm)) (hme : ∀ k ∈ me, k = i) (his : ∀ j ∈ is, j ∈ own.map (·.2)) (hc : X.calm = true := by rfl) (hs : ∀ x, foldedSetIterable iter X.env x = pure x := by intro _; rfl) :
    DO K X Δ (.ListComp elt [⟨tg, iter, [], 0⟩] scope pos) (oList τe) (ms ++ [i]) (c1 ++ [fun s => loopC (fun m x => Conj ce ((s, m), x)) (fun m x => fm ((s, m), x)) (fx s) (f0 s)]) (Δ1.set i (.ow ω fun s => LoopF (fun m x => fm ((s, m), x)) (fx s) (f0 s))) (fun s => LcE (fun m x => fe ((s, m), x)) (fun m x => fm ((s, m), x)) (fx s) (f0 s)) (tLc wi g tYes te (own.map (·.2))) :=
  ⟨hi.1.trans (diff_mut hi0), pe_lc hc hN hi.2.1 ok (fun s H C cl fp => (hg s H C cl fp).2.1) (fun s H C cl fp => pts_nil) (fun s H C cl fp => (he s H C cl fp).2.1) hs, by
    have s0 : Shared := {}
    exact lcE_sem (is := is) hi.1 hi0 hvs hi.2.2 (hg s0 (fun _ => none) 0 [] []).1 (hg s0 (fun _ => none) 0 [] []).2.2 (he s0 (fun _ => none) 0 [] []).2.2 eb hme his⟩
/-! #### a, b, .. = a list -/
/-- a list of known length and kinds -/
abbrev tLN (ts : List (Ty K)) : Ty K := ⟨HL ts, fun F v x => ∃ a vs, v = .ref a ∧ F a = some (.lst vs) ∧ RepAll F ts vs x, fun h ⟨a, vs, e, q, r⟩ => ⟨a, vs, e, h _ _ q, r.mono h⟩⟩
theorem DX.ln2 (d : τ.α) {f : S → List τ.α} (he : DX K X Δ e (tList τ) ms c1 Δ1 f ta) : DX K X Δ e (tLN [τ, τ]) ms (c1 ++ [fun s => (f s).length = 2]) Δ1 (fun s => ((f s).getD 0 d, (f s).getD 1 d)) ta := by
  obtain ⟨d1, p, r⟩ := he
  refine ⟨d1, p, fun s F H σ hh sm hc Q q => ?_⟩
  obtain ⟨k1, k2, _⟩ := conj_app hc
  refine r s F H σ hh sm k1 _ fun v F1 H1 g1 hh1 ⟨a, vs, ev, ea, pr, z⟩ => q v F1 H1 g1 hh1 ⟨a, vs, ev, ea, ?_⟩
  show RepAll F1 [τ, τ] vs ((f s).getD 0 d, (f s).getD 1 d)
  have k2' : (f s).length = 2 := k2
  clear k2
  generalize f s = xs at *
  match xs, vs, pr, k2' with
  | [x, y], [v, w], .cons r1 (.cons r2 .nil), _ => exact ⟨v, [w], rfl, r1, w, rfl, r2⟩
theorem DX.ln3 (d : τ.α) {f : S → List τ.α} (he : DX K X Δ e (tList τ) ms c1 Δ1 f ta) : DX K X Δ e (tLN [τ, τ, τ]) ms (c1 ++ [fun s => (f s).length = 3]) Δ1 (fun s => ((f s).getD 0 d, (f s).getD 1 d, (f s).getD 2 d)) ta := by
  obtain ⟨d1, p, r⟩ := he
  refine ⟨d1, p, fun s F H σ hh sm hc Q q => ?_⟩
  obtain ⟨k1, k2, _⟩ := conj_app hc
  refine r s F H σ hh sm k1 _ fun v F1 H1 g1 hh1 ⟨a, vs, ev, ea, pr, z⟩ => q v F1 H1 g1 hh1 ⟨a, vs, ev, ea, ?_⟩
  show RepAll F1 [τ, τ, τ] vs ((f s).getD 0 d, (f s).getD 1 d, (f s).getD 2 d)
  have k2' : (f s).length = 3 := k2
  clear k2
  generalize f s = xs at *
  match xs, vs, pr, k2' with
  | [x, y, z], [v, w, u], .cons r1 (.cons r2 (.cons r3 .nil)), _ => exact ⟨v, [w, u], rfl, r1, w, [u], rfl, r2, u, rfl, r3⟩
theorem DG.lst {ts : List (Ty K)} {es : List Expr} {k : Nat} {h : S → HL ts} {gs : TGs} {is : List Nat} (hb : DGs K X Δ es ts h is Δ1 gs) (hc : X.calm = true := by rfl) (hn : (assignEach es X.env).length = ts.length := by rfl) (hst : (assignEach es X.env).findIdx? (·.1) = none := by rfl) (hK : X.K = K := by rfl) : DG K X Δ (.Tuple es k pos) (tLN ts) h is Δ1 (gLst K ts.length gs) := by
  subst hK
  exact ⟨hb.1, pg_lst hc hb.2.1 hn hst, fun s F H σ v hh sm ⟨a, vs, ev, q1, r⟩ Q q => ⟨a, vs, ev, .inl (.inl (sm _ _ q1)), r.length, hb.2.2 s F H σ vs hh sm r Q q⟩⟩
/-! #### list(range(..)) -/
theorem rgV_eq (a b : Int) : rgV a b = (rangeL2 a b).map V.int := by
  unfold rgV rangeL2
  rw [List.map_map]
  rfl
theorem DO.listRg2 {f g : S → Int} {p1 p2 : Pos} (hm : X.mg "list" = none) (hm2 : X.mg "range" = none) (ha : DX K X Δ a (tInt K) m1 c1 Δ1 f ta) (hb : DX K X Δ1 b (tInt K) m2 c2 Δ2 g tb) (hc : X.calm = true := by rfl) (hg : Gl X "list" := by rfl) (hg2 : Gl X "range" := by rfl)
    (na : starEach [a, b] X.env = (false, eval a X.env) :: starEach [b] X.env := by rfl) (nb : starEach [b] X.env = (false, eval b X.env) :: starEach [] X.env := by rfl) (hn : starEach [.Call (.Name "range" p1) [a, b] [] p2] X.env = (false, eval (.Call (.Name "range" p1) [a, b] [] p2) X.env) :: starEach [] X.env := by rfl) (hpl : (backTo p2 (starEach [b] X.env)).any (·.1) = false := by rfl) :
    DO K X Δ (.Call (.Name "list" px) [.Call (.Name "range" p1) [a, b] [] p2] [] pos) (oList (tInt K)) (m1 ++ m2) (c1 ++ (c2 ++ [fun s => RgOk2 (f s) (g s)])) Δ2 (fun s => rangeL2 (f s) (g s)) (tLstRg (tRg2 ta tb)) := by
  obtain ⟨d1, p, r⟩ := ha
  obtain ⟨d2, p', r2⟩ := hb
  refine ⟨d1.trans d2, pe_listRg hc hg hm (prg_2 hg2 hm2 p p' na nb hpl) hn, fun s F H σ hh sm hc Q q => ?_⟩
  obtain ⟨k1, k2⟩ := conj_app hc
  obtain ⟨k2, ⟨k3, k4, k5, k6, k7⟩, _⟩ := conj_app k2
  refine r s F H σ hh sm k1 _ fun v F1 H1 g1 hh1 r1 => r2 s F1 H1 σ hh1 g1.fh k2 _ fun w F2 H2 g2 hh2 r3 => ⟨f s, g s, by rw [show v = .int (f s) from r1], by rw [show w = .int (g s) from r3], ⟨k3, k4, k5, k6, ?_⟩, fun l n => ?_⟩
  · have : (sizeLine : Int) ≤ 2 ^ 24 := by decide
    omega
  · have ow : (oList (tInt K)).own F2 (.lst (rgV (f s) (g s))) (rangeL2 (f s) (g s)) := ⟨_, rfl, by rw [rgV_eq]; exact paired_intsR _, by unfold rangeL2; rw [List.length_map, List.length_range]; omega⟩
    obtain ⟨g3, fn, e3⟩ := own_of_new (ω := oList (tInt K)) g2.fh n ow
    have g12 := (g1.mono (msAt_l (m2 := m2))).trans (g2.mono (msAt_r (m1 := m1)))
    exact q l _ F2 _ (g12.trans g3.of0) (hh2.grow g3) (g12.dom l n) fn e3 ow
end
end Dx

/-! Dx, part S: is not of bools; one of several new lists. -/
namespace Dx
open PySem PySem.Spec PyProof PyProof.Rows L2
section
variable {K : PySem.W.Frag} {X : Cx} {S R : Type} {Δ Δ1 Δ2 : Ctx K S} {e a b : Expr} {es : List Expr} {pos p' px : Pos} {τ : Ty K} {ω : OTy K} {ms m1 m2 : List Nat} {c1 c2 cs : List (S → Prop)} {ta tb : TE} {tl : TA} {i : Nat}
theorem DX.notB {f g : S → Bool} (ha : DX K X Δ a (tBool K) m1 c1 Δ1 f ta) (hb : DX K X Δ1 b (tBool K) m2 c2 Δ2 g tb) : DX K X Δ (.Compare a [.IsNot] [b] pos) (tBool K) (m1 ++ m2) (c1 ++ (c2 ++ [])) Δ2 (fun s => !decide (f s = g s)) (tOp rNotB ta tb) :=
  DX.bin (τ := tBool K) (cc := []) (g := fun (x y : Bool) => !decide (x = y)) (fun x y v u F H sm r1 r2 _ Q q => ⟨x, y, r1, r2, q _ F H (Gr.refl sm) rfl⟩) ha hb fun p q => pe_cmpR op_notBl p q (nomark _)
theorem DT.isB {f g : S → Bool} (ha : DX K X Δ a (tBool K) m1 c1 Δ1 f ta) (hb : DX K X Δ1 b (tBool K) m2 c2 Δ2 g tb) : DT K X Δ (.Compare a [.Is] [b] pos) (m1 ++ m2) (c1 ++ (c2 ++ [])) Δ2 (fun s => decide (f s = g s)) (tTest (tOp rIsB ta tb)) :=
  DT.bin (cc := []) (g := fun (x y : Bool) => decide (x = y)) (fun x y v u F H sm r1 r2 _ Q q => ⟨x, y, r1, r2, q _ F H (Gr.refl sm) rfl⟩) ha hb fun p q => pt_cmpR op_isBl p q (nomark _)
theorem DT.notB {f g : S → Bool} (ha : DX K X Δ a (tBool K) m1 c1 Δ1 f ta) (hb : DX K X Δ1 b (tBool K) m2 c2 Δ2 g tb) : DT K X Δ (.Compare a [.IsNot] [b] pos) (m1 ++ m2) (c1 ++ (c2 ++ [])) Δ2 (fun s => !decide (f s = g s)) (tTest (tOp rNotB ta tb)) :=
  DT.bin (cc := []) (g := fun (x y : Bool) => !decide (x = y)) (fun x y v u F H sm r1 r2 _ Q q => ⟨x, y, r1, r2, q _ F H (Gr.refl sm) rfl⟩) ha hb fun p q => pt_cmpR op_notBl p q (nomark _)
/-! #### one of several new lists -/
/-- items that are new objects of one's own, all of one type -/
def DLo (K : PySem.W.Frag) (X : Cx) (Δ : Ctx K S) (es : List Expr) (ω : OTy K) (ms : List Nat) (cs : List (S → Prop)) (Δ1 : Ctx K S) (f : S → List ω.τ.α) (t : TA) : Prop :=
  Diff ms Δ Δ1 ∧ PA X es t ∧ ∀ s F H σ, Holds Δ s F H σ → Same F H → Conj cs s → ∀ Q : List V → Hp → Prop, (∀ vs F' H', Gr (MsAt ms σ) F H F' H' → Holds Δ1 s F' H' σ → Paired (fun v x => ∃ p u, v = .ref p ∧ H p = none ∧ F' p = none ∧ H' p = some u ∧ ω.own F' u x) vs (f s) → Q vs H') → t σ H Q
theorem DLo.nil : DLo K X Δ [] ω [] [] Δ (fun _ => []) tNil := ⟨Diff.refl, pa_nil, fun s F H σ hh sm _ Q q => q [] F H (Gr.refl sm) hh .nil⟩
theorem DLo.cons {f : S → ω.τ.α} {g : S → List ω.τ.α} (ha : DO K X Δ e ω m1 c1 Δ1 f ta) (hm1 : OwnAll Δ m1) (hb : DLo K X Δ1 es ω m2 c2 Δ2 g tl) (hm2 : OwnAll Δ1 m2) (hs : starEach (e :: es) X.env = (false, eval e X.env) :: starEach es X.env := by rfl) : DLo K X Δ (e :: es) ω (m1 ++ m2) (c1 ++ c2) Δ2 (fun s => f s :: g s) (tCons ta tl) := by
  obtain ⟨d1, pa, ra⟩ := ha
  obtain ⟨d2, pb, rb⟩ := hb
  refine ⟨d1.trans d2, pa_cons pa pb hs, fun s F H σ hh sm hc Q q => ?_⟩
  obtain ⟨h1, h2⟩ := conj_app hc
  refine ra s F H σ hh sm h1 _ fun p u F1 H1 g1 hh1 n1 n2 e1 o1 => ?_
  refine rb s F1 H1 σ hh1 g1.fh h2 _ fun vs F2 H2 g2 hh2 r2 => ?_
  have np : ¬ MsAt m2 σ p := fun ⟨j, hj, ej⟩ => by
    obtain ⟨ω', f', e4⟩ := hm2.all j hj
    exact (d1.was hh e4 ej).2 n1
  have e2 : H2 p = some u := g2.keep _ _ e1 np
  have nf : F2 p = none := by
    cases x : F2 p with
    | none => rfl
    | some o =>
      rcases g2.fresh p o x with z | z
      · rw [n2] at z; cases z
      · rw [e1] at z; cases z
  exact q _ F2 H2 ((g1.mono (msAt_l (m2 := m2))).trans (g2.mono (msAt_r (m1 := m1)))) hh2 (.cons ⟨p, u, rfl, n1, nf, e2, ω.mono g2.ff o1⟩ (paired_mono (fun a b ⟨p, u, k1, k2, k3, k4, k5⟩ => ⟨p, u, k1, g1.dom p k2, k3, k4, k5⟩) r2))
/-- [new, ..][i] -/
theorem DO.pick (d : ω.τ.α) {f : S → List ω.τ.α} {g : S → Int} (ha : DLo K X Δ es ω m1 c1 Δ1 f tl) (hb : DX K X Δ1 b (tInt K) m2 c2 Δ2 g tb) (hm2 : OwnAll Δ1 m2) (n : Nat) (hn : ∀ s, (f s).length = n) (hz : n ≤ sizeLine) (hp : PlainIx b := by exact fun _ _ => rfl) (hK : X.K = K := by rfl) : DO K X Δ (.Subscript (.List es p') b pos) ω (m1 ++ m2) (c1 ++ (c2 ++ [fun s => IxOk (f s) (g s)])) Δ2 (fun s => ixI d (f s) (g s)) (tOp (rIxL K) (tLst tl) tb) := by
  subst hK
  obtain ⟨d1, pa, ra⟩ := ha
  obtain ⟨d2, pb, rb⟩ := hb
  refine ⟨d1.trans d2, pe_ix ix_list (pe_lst pa) pb hp, fun s F H σ hh sm hc Q q => ?_⟩
  obtain ⟨k1, k2⟩ := conj_app hc
  obtain ⟨k2, k3, _⟩ := conj_app k2
  refine ra s F H σ hh sm k1 _ fun vs F1 H1 g1 hh1 r1 => ⟨by rw [r1.length, hn]; exact hz, fun l nl => ?_⟩
  -- the display itself is a new object that nobody keeps
  have gl : Gr No F1 H1 F1 (upd H1 l (.lst vs)) := Gr.newO g1.fh nl
  refine rb s F1 (upd H1 l (.lst vs)) σ (hh1.grow gl) gl.fh k2 _ fun w F2 H2 g2 hh2 r2 => ?_
  have nol : ∀ p, H1 p ≠ none → (upd H1 l (.lst vs)) p = H1 p := fun p h => upd_ne fun z => h (by rw [z]; exact nl)
  have nm : ∀ p, H p = none → ¬ MsAt m2 σ p := fun p n0 ⟨j, hj, ej⟩ => by
    obtain ⟨ω', f', e4⟩ := hm2.all j hj
    exact (d1.was hh e4 ej).2 n0
  have n0l : H l = none := g1.dom l nl
  obtain ⟨j, e1, e2⟩ := ix_at (d := d) k3
  obtain ⟨z, e3, p, u, rz, z1, z2, z3, z4⟩ := paired_at r1 e2
  subst rz
  have hl2 : H2 l = some (.lst vs) := g2.keep _ _ upd_same (nm l n0l)
  refine ⟨l, vs, g s, .ref p, rfl, r2, .inl (.inl hl2), ?_, ?_⟩
  · unfold atI
    rw [r1.length, e1]
    exact e3
  · have ep : (upd H1 l (.lst vs)) p = some u := by rw [nol p (by rw [z3]; exact fun z => nomatch z)]; exact z3
    have e5 : H2 p = some u := g2.keep _ _ ep (nm p z1)
    have nf : F2 p = none := by
      cases x : F2 p with
      | none => rfl
      | some o =>
        rcases g2.fresh p o x with z | z
        · rw [z2] at z; cases z
        · rw [ep] at z; cases z
    exact q p u F2 H2 ((g1.mono (msAt_l (m2 := m2))).trans ((gl.of0 (B := MsAt (m1 ++ m2) σ)).trans (g2.mono (msAt_r (m1 := m1))))) hh2 z1 nf e5 (ω.mono g2.ff z4)
end
end Dx

/-! Dx, part T: x = [..], the statement of its own. -/
namespace Dx
open PySem PySem.Spec PyProof PyProof.Rows L2
section
variable {K : PySem.W.Frag} {X : Cx} {S R : Type} {Δ Δ1 Δ2 : Ctx K S} {st : Stmt} {e a b c tg iter elt : Expr} {es ifs : List Expr} {pos p' px apos : Pos} {τ τe τ1 τ2 L : Ty K} {ω ω1 ω2 : OTy K} {mus ms m1 m2 me is vs : List Nat} {c1 c2 c3 cs : List (S → Prop)} {ta tb te : TE} {tt tx : TT} {tl : TA} {i j : Nat} {x y : Str}
/-- the value of a store of its own (the compiler joins the two) -/
def Sole (X : Cx) (e : Expr) (ta : TE) : Prop := ∀ (i : Nat) (y : Str) (py spos : Pos), X.N.Nodup → X.N[i]? = some y → X.env.scope.names.lookup y = some .local → swapsWith e (some (.Name y py)) spos.line X.env = pure true → PS X (.Assign [.Name y py] e spos) (tAsg ta (gName i))
def DOS (K : PySem.W.Frag) (X : Cx) (Δ : Ctx K S) (e : Expr) (ω : OTy K) (ms : List Nat) (cs : List (S → Prop)) (Δ1 : Ctx K S) (f : S → ω.τ.α) (t : TE) : Prop := DO K X Δ e ω ms cs Δ1 f t ∧ Sole X e t
theorem DOS.lc {scope : Scope} {own : List (Str × Nat)} {Δb : Ctx K (S × τ.α)} {fx : S → List τ.α} {wi : TI} {g : TG} {ct ce : List (S × τ.α → Prop)} {ft : S × τ.α → Bool} {fe : S × τ.α → τe.α} (hN : X.N.Nodup) (hi : DI K X Δ tg iter τ ms c1 Δ1 fx wi) (ok : BlkOk X.N X.env.scope scope own)
    (hg : ∀ (s : Shared) (H : Hp) (C : Addr) (cl : List (Str × Addr)) (fp : List Addr), DG K (X.blk s H scope (compEnvC scope cl C X.env) fp) (Ctx.comap (T := S × τ.α) Prod.fst (killL Δ1 (own.map (·.2)))) tg τ Prod.snd is Δb g)
    (ht : ∀ (s : Shared) (H : Hp) (C : Addr) (cl : List (Str × Addr)) (fp : List Addr), DTs' K (X.blk s H scope (compEnvC scope cl C X.env) fp) Δb ifs ct ft tt)
    (he : ∀ (s : Shared) (H : Hp) (C : Addr) (cl : List (Str × Addr)) (fp : List Addr), DX K (X.blk s H scope (compEnvC scope cl C X.env) fp) Δb elt τe [] ce Δb fe te) (his : ∀ j ∈ is, j ∈ own.map (·.2)) (hc : X.calm = true := by rfl) (hs : ∀ x, foldedSetIterable iter X.env x = pure x := by intro _; rfl) :
    DOS K X Δ (.ListComp elt [⟨tg, iter, ifs, 0⟩] scope pos) (oList τe) ms (c1 ++ [fun s => ∀ x ∈ fx s, Conj ct (s, x) ∧ (ft (s, x) = true → Conj ce (s, x))]) Δ1 (fun s => lcV (fx s) (fun x => ft (s, x)) (fun x => fe (s, x))) (tLc wi g tt te (own.map (·.2))) :=
  ⟨DO.lc hN hi ok hg ht he his hc hs, fun i y py spos hN hy hyl hsw => ps_setLc hc hN hy hyl hsw hi.2.1 ok (fun s H C cl fp => (hg s H C cl fp).2.1) (fun s H C cl fp => (ht s H C cl fp).1) (fun s H C cl fp => (he s H C cl fp).2.1) hs⟩
theorem DOS.lcE {scope : Scope} {own : List (Str × Nat)} (i : Nat) {Δb Δb' : Ctx K ((S × ω.τ.α) × τ.α)} {fx : S → List τ.α} {wi : TI} {g : TG} {ce : List ((S × ω.τ.α) × τ.α → Prop)} {fe : (S × ω.τ.α) × τ.α → τe.α} {fm : (S × ω.τ.α) × τ.α → ω.τ.α} {f0 : S → ω.τ.α} (hN : X.N.Nodup) (hi : DI K X Δ tg iter τ ms c1 Δ1 fx wi) (hi0 : Δ1[i]? = some (.ow ω f0)) (ok : BlkOk X.N X.env.scope scope own) (hvs : i ∉ own.map (·.2))
    (hg : ∀ (s : Shared) (H : Hp) (C : Addr) (cl : List (Str × Addr)) (fp : List Addr), DG K (X.blk s H scope (compEnvC scope cl C X.env) fp) (Ctx.comap (T := (S × ω.τ.α) × τ.α) Prod.fst (killL (ctxM Δ1 i ω) (own.map (·.2)))) tg τ Prod.snd is Δb g)
    (he : ∀ (s : Shared) (H : Hp) (C : Addr) (cl : List (Str × Addr)) (fp : List Addr), DX K (X.blk s H scope (compEnvC scope cl C X.env) fp) Δb elt τe me ce Δb' fe te) (eb : Δb'[i]? = some (.ow ω fm)) (hme : ∀ k ∈ me, k = i) (his : ∀ j ∈ is, j ∈ own.map (·.2)) (hc : X.calm = true := by rfl) (hs : ∀ x, foldedSetIterable iter X.env x = pure x := by intro _; rfl) :
    DOS K X Δ (.ListComp elt [⟨tg, iter, [], 0⟩] scope pos) (oList τe) (ms ++ [i]) (c1 ++ [fun s => loopC (fun m x => Conj ce ((s, m), x)) (fun m x => fm ((s, m), x)) (fx s) (f0 s)]) (Δ1.set i (.ow ω fun s => LoopF (fun m x => fm ((s, m), x)) (fx s) (f0 s))) (fun s => LcE (fun m x => fe ((s, m), x)) (fun m x => fm ((s, m), x)) (fx s) (f0 s)) (tLc wi g tYes te (own.map (·.2))) :=
  ⟨DO.lcE i hN hi hi0 ok hvs hg he eb hme his hc hs, fun i y py spos hN hy hyl hsw => ps_setLc hc hN hy hyl hsw hi.2.1 ok (fun s H C cl fp => (hg s H C cl fp).2.1) (fun s H C cl fp => pts_nil) (fun s H C cl fp => (he s H C cl fp).2.1) hs⟩
theorem DOS.borrowE (i : Nat) {f : S → ω.τ.α} {g : S → ω1.τ.α} (h : Δ[i]? = some (.ow ω f)) (he : DOS K X (Δ.set i (.fz ω.τ f)) e ω1 ms c1 Δ1 g ta) (lf : LFo ω1) (him : i ∉ ms) (hm : OwnAll Δ ms) (lm : LfAll Δ1 ms) : DOS K X Δ e ω1 ms c1 (Δ1.set i (.ow ω f)) g ta :=
  ⟨DO.borrowE i h he.1 lf him hm lm, he.2⟩
/-- x = [..], kept as one's own -/
theorem DS.setS {h : S → ω.τ.α} {py spos : Pos} (he : DOS K X Δ e ω ms c1 Δ1 h ta) (hm : OwnAll Δ ms) (hN : X.N.Nodup) (hy : X.N[i]? = some y) (hyl : X.env.scope.names.lookup y = some .local) (hu : i ∉ mus) (hsw : swapsWith e (some (.Name y py)) spos.line X.env = pure true := by rfl) :
    DS K X mus Δ (.Assign [.Name y py] e spos) c1 (Δ1.set i (.ow ω h)) := DS.setG he.1 (he.2 i y py spos hN hy hyl hsw) hm hu
/-- .. as data that stays -/
theorem DS.setSF {h : S → List τ.α} {py spos : Pos} (he : DOS K X Δ e (oList τ) ms c1 Δ1 h ta) (hm : OwnAll Δ ms) (hN : X.N.Nodup) (hy : X.N[i]? = some y) (hyl : X.env.scope.names.lookup y = some .local) (hu : i ∉ mus) (hsw : swapsWith e (some (.Name y py)) spos.line X.env = pure true := by rfl) :
    DS K X mus Δ (.Assign [.Name y py] e spos) c1 (Δ1.set i (.fz (tList τ) h)) := by
  obtain ⟨d1, p, r⟩ := DX.ofL he.1
  have hg : DG K X Δ1 (.Name y py) (tList τ) h [i] (Δ1.set i (.fz (tList τ) h)) (gName i) := DG.name hN hy (.inl hyl) (.inr hyl)
  refine ⟨_, he.2 i y py spos hN hy hyl hsw, fun s F H σ hh sm hc D q => r s F H σ hh sm hc _ fun v F1 H1 g1 hh1 r1 => hg.2.2 s F1 H1 σ v hh1 g1.fh r1 _ fun σ1 k1 k2 k3 => q σ1 F1 H1 ?_ k1⟩
  have gs : GrS mus Δ σ Δ1 σ F H F1 H1 := GrS.ofGr d1 hh hm.all g1
  exact { gs.toGrR with own := fun a z => gs.own a (k2 a z), mu := fun k m => k3 k fun z => hu (List.mem_singleton.mp z ▸ m) }
end
end Dx

/-! Dx, part U: list(range(a, b)) at any bounds. -/
namespace Dx
open PySem PySem.Spec PyProof PyProof.Rows L2
section
variable {prog : Program} {w : World} {A : Around} {E : Value → Shared → Prop} {s : Shared}
theorem moved_with {wr : List Addr} {s0 s1 : Shared} (m : Moved wr (fun a b => b = a) s0 s1) : s1 = { s0 with heap := s1.heap, toks := s1.toks } := m.eq_with
/-- the list's own loop over a range with long bounds -/
theorem ext_long {R : Result → Shared → Prop} {rg : Addr} {lo hi by_ : Int} {t1 t2 t3 : Tok} {n : Nat} (nh : A.handled = none) (isr : IsRange s.heap rg lo hi by_ t1 t2 t3) (big : Builtin.Range.small lo hi by_ = false)
    (sz : Builtin.Range.rangeSize lo hi by_ = n) (short : n ≤ 2 ^ 24) (L0 : Addr) (out : Value) (k0 : Nat) (isL : s.heap.get? L0 = some { cls := .type "list", data := .seq #[] k0 })
    (done : ∀ g tk got k, (∀ b o, b ≠ L0 → s.heap.get? b = some o → g.get? b = some o) → g.get? L0 = some { cls := .type "list", dict := none, data := .seq got k, slots := #[] } →
      ItemsOf (fun i v => ∃ t, v = .int (lo + i * by_) t) got n → R (.ok (.ret out)) { s with heap := g, toks := tk }) :
    wpAny (model prog w) A.in1 (Builtin.List.listExtendWith (.ref L0) (.ref rg) out)
      (fun fin s2 => match fin with | .done f => R (.ok f) s2 | .again c2 => c2.quiet = true ∧ codeAny (model prog w) A c2 R s2) (fun e s2 => R (.error e) s2) s := by
  have apart : L0 ≠ rg := fun z => by rw [z, isr] at isL; simp at isL
  have below : L0 < s.heap.objs.size := Heap.lt_size isL
  have apart2 : L0 ≠ s.heap.objs.size := Nat.ne_of_lt below
  have out1 : L0 ∉ [s.heap.objs.size] := fun z => apart2 (List.mem_singleton.mp z)
  have WK := (Walks.longrange (prog := prog) (w := w) (A := A.in1) nh s.heap.objs.size lo by_ n).toS
  have go : ∀ (g : Heap) (k1 tk : Nat), IsLongIter g s.heap.objs.size (lo + ((0 : Nat) : Int) * by_) ((n : Int) - ((0 : Nat) : Int)) by_ → (∀ b o, b ≠ L0 → s.heap.get? b = some o → g.get? b = some o) →
      g.get? L0 = some { cls := .type "list", data := .seq #[] k1 } → codeAny (model prog w) A (.builtin "list.extend.loop" ⟨[.ref L0, .ref s.heap.objs.size, out], []⟩) R { s with heap := g, toks := tk } := by
    intro g k1 tk itr kp isL1
    refine codeAny_extend_loopS WK (by rw [sizeLine_eq]; omega) L0 out1 out n 0 _ #[] k1 rfl (Nat.zero_le _) itr isL1 (ItemsOf.nil _) fun s2 got k2 mv isL2 its => ?_
    rw [moved_with mv]
    refine done s2.heap s2.toks got k2 (fun b o nb e => mv.heap b o (fun z => ?_) (kp b o nb e)) isL2 its
    rcases List.mem_cons.mp z with z1 | z1
    · exact nb z1
    · exact absurd (Heap.lt_size e) (by rw [List.mem_singleton.mp z1]; exact Nat.lt_irrefl _)
  unfold Builtin.List.listExtendWith
  refine wpAny_bind (wpAny_typeOf (T := "range") ⟨_, isr, rfl⟩ ?_)
  have f1 : Builtin.List.listSameRef (.ref L0) (.ref rg) = false := by simp [Builtin.List.listSameRef, apart]
  have f2 : (Value.type "range" == Value.type "list") = false := by decide
  have f3 : (Value.type "range" == Value.type "tuple") = false := by decide
  simp only [f1, f2, f3, Bool.or_false, Bool.false_eq_true, if_false]
  refine wpAny_bind (wpAny_pyIter_longrange isr big ?_)
  refine wpAny_bind (wpAny_holding (wpAny_hint_range (n := n) (Heap.get?_push_of_some _ isr) sz short ?_))
  have itr1 : IsLongIter (s.heap.push { cls := .type "longrange_iterator", data := .fields #[rawInt lo, rawInt (Builtin.Range.rangeSize lo hi by_), rawInt by_] }) s.heap.objs.size (lo + ((0 : Nat) : Int) * by_) ((n : Int) - ((0 : Nat) : Int)) by_ := by
    show IsLongIter _ _ _ _ _
    rw [sz]
    simpa using Heap.get?_push_size _ rfl
  have isL1 := Heap.get?_push_of_some { cls := .type "longrange_iterator", data := .fields #[rawInt lo, rawInt (Builtin.Range.rangeSize lo hi by_), rawInt by_] } isL
  refine wpAny_ite_split (fun _ => ?_) (fun _ => wpAny_pure ⟨plainId_quiet F.plain_extend_loop _, go _ k0 _ itr1 (fun b o _ e => Heap.get?_push_of_some _ e) isL1⟩)
  refine wpAny_bind (wpAny_rule (wpAny_bind ?_))
  show wpAny _ _ (updateSeq L0 (·.push .none) >>= fun _ => updateSeq L0 (·.pop)) _ _ _
  refine wpAny_bind (wpAny_updateSeq isL1 rfl ?_)
  have isL2 := Heap.get?_update_self (Obj.mapSeq (·.push Value.none)) isL1 rfl
  refine wpAny_updateSeq (hz := by seq_fits) isL2 rfl ?_
  have isL3 := Heap.get?_update_self (Obj.mapSeq (·.pop)) isL2 rfl
  refine wpAny_pure ⟨plainId_quiet F.plain_extend_loop _, go _ _ _ ?_ (fun b o nb e => ?_) isL3⟩
  · exact (Heap.get?_update_other _ _ apart2).trans ((Heap.get?_update_other _ _ apart2).trans itr1)
  · exact (Heap.get?_update_other _ _ (Ne.symm nb)).trans ((Heap.get?_update_other _ _ (Ne.symm nb)).trans (Heap.get?_push_of_some _ e))
theorem init_long {R : Result → Shared → Prop} {rg : Addr} {lo hi by_ : Int} {t1 t2 t3 : Tok} {n : Nat} (nh : A.handled = none) (isr : IsRange s.heap rg lo hi by_ t1 t2 t3) (big : Builtin.Range.small lo hi by_ = false)
    (sz : Builtin.Range.rangeSize lo hi by_ = n) (short : n ≤ 2 ^ 24) (L0 : Addr) (isL : s.heap.get? L0 = some { cls := .type "list", data := .seq #[] })
    (done : ∀ g tk got k, (∀ b o, b ≠ L0 → s.heap.get? b = some o → g.get? b = some o) → g.get? L0 = some { cls := .type "list", dict := none, data := .seq got k, slots := #[] } →
      ItemsOf (fun i v => ∃ t, v = .int (lo + i * by_) t) got n → R (.ok (.ret .none)) { s with heap := g, toks := tk }) :
    wpAny (model prog w) A.in1 (Builtin.«list.__init__» ⟨[.ref L0, .ref rg], []⟩)
      (fun fin s2 => match fin with | .done f => R (.ok f) s2 | .again c2 => c2.quiet = true ∧ codeAny (model prog w) A c2 R s2) (fun e s2 => R (.error e) s2) s := by
  have apart : L0 ≠ rg := fun z => by rw [z, isr] at isL; simp at isL
  show wpAny _ _ (do let old ← Builtin.List.listItems (.ref L0); Builtin.List.listUpdate (.ref L0) (fun _ => #[]); letGo old.toList.reverse; Builtin.List.listExtendWith (.ref L0) (.ref rg) .none) _ _ s
  refine wpAny_bind ?_; unfold Builtin.List.listItems
  refine wpAny_bind (wpAny_seqItems isL rfl (wpAny_pure ?_))
  show wpAny _ _ (updateSeq L0 (fun _ => #[]) >>= fun _ => letGo (#[] : Array Value).toList.reverse >>= fun _ => Builtin.List.listExtendWith (.ref L0) (.ref rg) .none) _ _ s
  refine wpAny_bind (wpAny_updateSeq isL rfl ?_)
  have isL2 := Heap.get?_update_self (Obj.mapSeq (fun _ => (#[] : Array Value))) isL rfl
  have rest : ∀ b o, b ≠ L0 → s.heap.get? b = some o → (s.heap.update L0 (Obj.mapSeq (fun _ => (#[] : Array Value)))).get? b = some o := fun b o nb e => (Heap.get?_update_other _ _ (Ne.symm nb)).trans e
  refine wpAny_bind (wpAny_letGo (ext_long nh (rest rg _ (Ne.symm apart) isr) big sz short L0 .none _ isL2 fun g tk got k kp isL3 its => ?_))
  exact done g tk got k (fun b o nb e => kp b o nb (rest b o nb e)) isL3 its
end
section
variable {prog : Program} {w : World} {A : Around} {E : Value → Shared → Prop} {s : Shared}
theorem call_list_long {Q : Value → Shared → Prop} {rg : Addr} {lo hi by_ : Int} {t1 t2 t3 : Tok} {n : Nat} (nh : A.handled = none) (isr : IsRange s.heap rg lo hi by_ t1 t2 t3) (big : Builtin.Range.small lo hi by_ = false)
    (sz : Builtin.Range.rangeSize lo hi by_ = n) (short : n ≤ 2 ^ 24)
    (hQ : ∀ g tk got k, (∀ b o, s.heap.get? b = some o → g.get? b = some o) →
      g.get? s.heap.objs.size = some { cls := .type "list", dict := none, data := .seq got k, slots := #[] } → ItemsOf (fun i v => ∃ t, v = .int (lo + i * by_) t) got n → Q (.ref s.heap.objs.size) { s with heap := g, toks := tk }) :
    wpAny (model prog w) A (call (.type "list") [.ref rg]) Q E s := by
  refine callType_codes (Q₁ := fun obj s1 => obj = .ref s.heap.objs.size ∧ s1 = { s with heap := s.heap.push { cls := .type "list", data := .seq #[] } }) F.called_list (F.typeCall_list_1 _) F.entry_list_init (code_list_new _ ⟨rfl, rfl⟩) fun obj s1 q1 => ?_
  obtain ⟨rfl, rfl⟩ := q1
  have isL : (s.heap.push { cls := .type "list", data := .seq #[] }).get? s.heap.objs.size = some { cls := .type "list", data := .seq #[] } := Heap.get?_push_size _ rfl
  refine ⟨⟨_, isL, rfl⟩, F.args_list_init_2 _ _, init_long (A := A.in1) nh (Heap.get?_push_of_some _ isr) big sz short _ isL fun g tk got k kp isL2 its => ?_⟩
  exact ⟨rfl, hQ g tk got k (fun b o e => kp b o (Nat.ne_of_lt (Heap.lt_size e)) (Heap.get?_push_of_some _ e)) isL2 its⟩
end
section
variable {K : PySem.W.Frag} {X : Cx} {S : Type} {Δ Δ1 Δ2 : Ctx K S} {e a b : Expr} {pos px : Pos} {m1 m2 : List Nat} {c1 c2 : List (S → Prop)} {ta tb : TE}
def tLstLg (te : L2.St → Hp → (Int → Int → Hp → Prop) → Prop) : TE := fun σ H Q => te σ H fun a b H1 => (b - a).toNat ≤ sizeLine ∧ ∀ q, H1 q = none → Q (.ref q) (upd H1 q (.lst (rgV a b)))
theorem pe_listLg {te : L2.St → Hp → (Int → Int → Hp → Prop) → Prop} (hc : X.calm = true) (hg : Gl X "list") (hm : X.mg "list" = none) (he : PRg X e te) (na : starEach [e] X.env = (false, eval e X.env) :: starEach [] X.env := by rfl) : PE X (.Call (.Name "list" px) [e] [] pos) (tLstLg te) := by
  refine ⟨fun pins s σ H Q I h => Call_ (ld_blt I hg hm boot_list (PyProof.Rows.callWith_type1 (args_cons (thn (he pins s σ H _ I h) fun x s1 ⟨r, a, b, t, u, v, H1, ex, hr, I1, ok, q⟩ => args_nil ?_) na) na))⟩
  subst ex
  have ok2 : (b - a).toNat ≤ 2 ^ 24 := by rw [sizeLine_eq] at ok; omega
  have fin : ∀ (h' : Heap) (tk : Nat) (acc : Array Value) (c' : Nat), (∀ b o, s1.heap.get? b = some o → h'.get? b = some o) → h'.get? s1.heap.objs.size = some { cls := .type "list", dict := none, data := .seq acc c', slots := #[] } →
      ItemsOf (fun i v => ∃ t, v = .int (a + i * 1) t) acc (b - a).toNat → EP X pins σ Q (.ref s1.heap.objs.size) { s1 with heap := h', toks := tk } := fun h' tk acc c' hk e' hi => by
    refine ⟨.ref s1.heap.objs.size, upd H1 s1.heap.objs.size (.lst (rgV a b)), I1.laid hk (Nat.le_refl _) (show ObjOk X.prog X.w _ _ _ (.lst (rgV a b)) from ⟨by rw [rgV_length]; exact ok, acc.toList, c', vals_rg hi, ?_⟩), rfl, q _ (I1.hok.fresh (Nat.le_refl _))⟩
    rw [Array.toArray_toList]; exact e'
  cases hs : Builtin.Range.small a b 1 with
  | true => exact call_list_range (n := (b - a).toNat) (I1.ok.hd hc) hr hs (rangeSize_nat a b) ok2 fin
  | false => exact call_list_long (n := (b - a).toNat) (I1.ok.hd hc) hr hs (rangeSize_nat a b) ok2 fin
/-- list(range(a, b)), any bounds, not too long -/
theorem DO.listRgL {f g : S → Int} {p1 p2 : Pos} (hm : X.mg "list" = none) (hm2 : X.mg "range" = none) (ha : DX K X Δ a (tInt K) m1 c1 Δ1 f ta) (hb : DX K X Δ1 b (tInt K) m2 c2 Δ2 g tb) (hc : X.calm = true := by rfl) (hg : Gl X "list" := by rfl) (hg2 : Gl X "range" := by rfl)
    (na : starEach [a, b] X.env = (false, eval a X.env) :: starEach [b] X.env := by rfl) (nb : starEach [b] X.env = (false, eval b X.env) :: starEach [] X.env := by rfl) (hn : starEach [.Call (.Name "range" p1) [a, b] [] p2] X.env = (false, eval (.Call (.Name "range" p1) [a, b] [] p2) X.env) :: starEach [] X.env := by rfl) (hpl : (backTo p2 (starEach [b] X.env)).any (·.1) = false := by rfl) :
    DO K X Δ (.Call (.Name "list" px) [.Call (.Name "range" p1) [a, b] [] p2] [] pos) (oList (tInt K)) (m1 ++ m2) (c1 ++ (c2 ++ [fun s => g s - f s ≤ sizeLine])) Δ2 (fun s => rangeL2 (f s) (g s)) (tLstLg (tRg2 ta tb)) := by
  obtain ⟨d1, p, r⟩ := ha
  obtain ⟨d2, p', r2⟩ := hb
  refine ⟨d1.trans d2, pe_listLg hc hg hm (prg_2 hg2 hm2 p p' na nb hpl) hn, fun s F H σ hh sm hc Q q => ?_⟩
  obtain ⟨k1, k2⟩ := conj_app hc
  obtain ⟨k2, k7, _⟩ := conj_app k2
  have k7' : g s - f s ≤ sizeLine := k7
  refine r s F H σ hh sm k1 _ fun v F1 H1 g1 hh1 r1 => r2 s F1 H1 σ hh1 g1.fh k2 _ fun w F2 H2 g2 hh2 r3 => ⟨f s, g s, by rw [show v = .int (f s) from r1], by rw [show w = .int (g s) from r3], by omega, fun l n => ?_⟩
  have ow : (oList (tInt K)).own F2 (.lst (rgV (f s) (g s))) (rangeL2 (f s) (g s)) := ⟨_, rfl, by rw [rgV_eq]; exact paired_intsR _, by unfold rangeL2; rw [List.length_map, List.length_range]; omega⟩
  obtain ⟨g3, fn, e3⟩ := own_of_new (ω := oList (tInt K)) g2.fh n ow
  have g12 := (g1.mono (msAt_l (m2 := m2))).trans (g2.mono (msAt_r (m1 := m1)))
  exact q l _ F2 _ (g12.trans g3.of0) (hh2.grow g3) (g12.dom l n) fn e3 ow
end
end Dx

/-! Dx, part V: texts. -/
namespace Dx
open PySem PySem.Spec PyProof PyProof.Rows L2
/-! #### texts without strange signs -/
theorem ok_iff {x : Str} : PyData.strOk x = true ↔ ∀ c ∈ TL.tl x, c < 0x110000 := by
  unfold PyData.strOk
  rw [Array.all_eq_true']
  simp [TL.tl]
theorem ok_app {x y : Str} (hx : PyData.strOk x = true) (hy : PyData.strOk y = true) : PyData.strOk (x ++ y) = true := by
  rw [ok_iff] at *
  rw [TL.tl_append]
  intro c hc
  rcases List.mem_append.mp hc with h | h
  · exact hx c h
  · exact hy c h
theorem ok_str (s : String) : PyData.strOk (Str.ofString s) = true := by
  rw [ok_iff, TL.tl_ofString]
  intro c hc
  obtain ⟨d, _, e⟩ := List.mem_map.mp hc
  subst e
  have := d.valid
  have h : d.toNat < 0x110000 := by
    rcases this with h | ⟨_, h⟩
    · exact Nat.lt_trans h (by decide)
    · exact h
  exact h
theorem ok_empty : PyData.strOk Str.empty = true := ok_iff.mpr fun c hc => by cases hc
theorem ok_mk {l : List Nat} (h : ∀ c ∈ l, c < 0x110000) : PyData.strOk ⟨l.toArray⟩ = true := ok_iff.mpr h
theorem mem_joinL {S : List Nat} {c : Nat} : ∀ {ps : List (List Nat)}, c ∈ TL.joinL S ps → c ∈ S ∨ ∃ p ∈ ps, c ∈ p
  | [], h => by cases h
  | [p], h => .inr ⟨p, List.mem_singleton.mpr rfl, h⟩
  | p :: q :: ps, h => by
    have h' : c ∈ p ++ (S ++ TL.joinL S (q :: ps)) := by simpa [TL.joinL] using h
    rcases List.mem_append.mp h' with h | h
    · exact .inr ⟨p, List.mem_cons_self, h⟩
    · rcases List.mem_append.mp h with h | h
      · exact .inl h
      · rcases mem_joinL h with h | ⟨r, hr, h⟩
        · exact .inl h
        · exact .inr ⟨r, List.mem_cons_of_mem _ hr, h⟩
theorem joinL_mem {S : List Nat} {c : Nat} {p : List Nat} : ∀ {ps : List (List Nat)}, p ∈ ps → c ∈ p → c ∈ TL.joinL S ps
  | [q], hp, hc => by rw [List.mem_singleton] at hp; subst hp; exact hc
  | q :: r :: ps, hp, hc => by
    have : c ∈ q ++ (S ++ TL.joinL S (r :: ps)) := by
      rcases List.mem_cons.mp hp with e | hp
      · exact List.mem_append_left _ (e ▸ hc)
      · exact List.mem_append_right _ (List.mem_append_right _ (joinL_mem hp hc))
    simpa [TL.joinL] using this
theorem ok_join {y : Str} {ps : List Str} (hy : PyData.strOk y = true) (hp : ∀ p ∈ ps, PyData.strOk p = true) : PyData.strOk (Txt.join y ps) = true := by
  rw [TL.join_eq, ok_iff, TL.tl_join]
  intro c hc
  rcases mem_joinL hc with h | ⟨p, h1, h2⟩
  · exact ok_iff.mp hy c h
  · obtain ⟨q, hq, e⟩ := List.mem_map.mp h1
    subst e
    exact ok_iff.mp (hp q hq) c h2
theorem ok_split {x y : Str} (hx : PyData.strOk x = true) : ∀ p ∈ Txt.split x y, PyData.strOk p = true := fun p hp => by
  rw [ok_iff] at hx ⊢
  intro c hc
  apply hx
  rw [← StrLaws.join_split x y, TL.tl_join]
  exact joinL_mem (List.mem_map.mpr ⟨p, hp, rfl⟩) hc
def cutT (z : Str) (lo hi : Option Int) : Str := L2.cutS z lo hi
theorem ok_cut {z : Str} (lo hi : Option Int) (h : PyData.strOk z = true) : PyData.strOk (cutT z lo hi) = true := by
  refine ok_mk fun c hc => ok_iff.mp h c ?_
  exact List.mem_of_mem_drop (List.mem_of_mem_take hc)
/-- the signs of a text, each a text -/
def charsS (x : Str) : List Str := x.cps.toList.map fun c => ⟨#[c]⟩
/-- x[i] -/
def chS (x : Str) (i : Int) : Str := ixI Str.empty (charsS x) i
def mulS (x : Str) (n : Int) : Str := if n = 1 then x else Str.empty
def intOf (x : Str) : Int := (PySem.intText? x).getD 0
def leS (x y : Str) : Bool := !decide (y.cps.toList < x.cps.toList)
def ltS (x y : Str) : Bool := decide (x.cps.toList < y.cps.toList)
theorem charsS_len (x : Str) : (charsS x).length = x.length := by simp [charsS, Str.length]
theorem ok_char {x : Str} (h : PyData.strOk x = true) : ∀ c ∈ charsS x, PyData.strOk c = true := fun c hc => by
  obtain ⟨d, hd, e⟩ := List.mem_map.mp hc
  subst e
  exact ok_mk (l := [d]) fun e he => by rw [List.mem_singleton.mp he]; exact ok_iff.mp h d hd
section
variable {K : PySem.W.Frag} {X : Cx} {S R : Type} {Δ Δ1 Δ2 Δ3 : Ctx K S} {e a b tg : Expr} {es : List Expr} {pos p' p2 px apos : Pos} {ms m1 m2 m3 : List Nat} {c1 c2 c3 cs : List (S → Prop)} {ta tb : TE} {tl : TA} {lo hi : Option Expr} {tlo thi : TO} {L : Ty K}
/-- str(n) -/
theorem DX.strI {f : S → Int} (hm : X.mg "str" = none) (he : DX K X Δ e (tInt K) ms c1 Δ1 f ta) (hg : Gl X "str" := by rfl) (hs : starEach [e] X.env = (false, eval e X.env) :: starEach [] X.env := by rfl) (hpl : (backTo pos (starEach [] X.env)).any (·.1) = false := by rfl) :
    DX K X Δ (.Call (.Name "str" px) [e] [] pos) (tStr K) ms (c1 ++ [fun s => (f s).natAbs.log2 < 1920]) Δ1 (fun s => Str.ofString (toString (f s))) (tCB (fun xs H Q => ∃ i, xs = [.int i] ∧ i.natAbs.log2 < 1920 ∧ Q (.str (toString i)) H) (tCons ta tNil)) := by
  obtain ⟨d1, p, r⟩ := he
  refine ⟨d1, pe_callTy call_str_int hg hm (by decide +kernel) (pa_cons p pa_nil hs) (by decide) (by decide) hs hpl, fun s F H σ hh sm hc Q q => ?_⟩
  obtain ⟨k1, k2, _⟩ := conj_app hc
  exact r s F H σ hh sm k1 _ fun v F1 H1 g1 hh1 r1 => ⟨f s, by rw [show v = .int (f s) from r1], k2, q _ F1 H1 g1 hh1 ⟨rfl, ok_str _⟩⟩
/-- int(text) -/
theorem DX.intS {f : S → Str} (hm : X.mg "int" = none) (he : DX K X Δ e (tStr K) ms c1 Δ1 f ta) (hg : Gl X "int" := by rfl) (hs : starEach [e] X.env = (false, eval e X.env) :: starEach [] X.env := by rfl) (hpl : (backTo pos (starEach [] X.env)).any (·.1) = false := by rfl) :
    DX K X Δ (.Call (.Name "int" px) [e] [] pos) (tInt K) ms (c1 ++ [fun s => (PySem.intText? (f s)).isSome = true ∧ (f s).length ≤ 640]) Δ1 (fun s => intOf (f s)) (tCB (fun xs H Q => ∃ a n, xs = [.str a] ∧ PySem.intText? a = some n ∧ a.length ≤ 640 ∧ Q (.int n) H) (tCons ta tNil)) := by
  obtain ⟨d1, p, r⟩ := he
  refine ⟨d1, pe_callTy call_int_str hg hm (by decide +kernel) (pa_cons p pa_nil hs) (by decide) (by decide) hs hpl, fun s F H σ hh sm hc Q q => ?_⟩
  obtain ⟨k1, ⟨k2, k3⟩, _⟩ := conj_app hc
  refine r s F H σ hh sm k1 _ fun v F1 H1 g1 hh1 r1 => ?_
  obtain ⟨n, en⟩ := Option.isSome_iff_exists.mp k2
  exact ⟨f s, n, by rw [r1.1], en, k3, q _ F1 H1 g1 hh1 (by show V.int n = V.int (intOf (f s)); unfold intOf; rw [en]; rfl)⟩
/-- x + y -/
theorem DX.addS {f g : S → Str} (ha : DX K X Δ a (tStr K) m1 c1 Δ1 f ta) (hb : DX K X Δ1 b (tStr K) m2 c2 Δ2 g tb) : DX K X Δ (.BinOp a .Add b pos) (tStr K) (m1 ++ m2) (c1 ++ (c2 ++ [fun s => (f s).length + (g s).length ≤ sizeLine])) Δ2 (fun s => f s ++ g s) (tOp (fun x y H Q => ∃ i j, x = .str i ∧ y = .str j ∧ i.length + j.length ≤ sizeLine ∧ Q (.str (i ++ j)) H) ta tb) :=
  DX.bin (τ := tStr K) (cc := [fun (x y : Str) => x.length + y.length ≤ sizeLine]) (g := fun (x y : Str) => x ++ y) (fun x y v u F H sm r1 r2 hc Q q => ⟨x, y, r1.1, r2.1, hc.1, q _ F H (Gr.refl sm) ⟨rfl, ok_app r1.2 r2.2⟩⟩) ha hb fun p q => pe_op op_add_str p q
def rMulS : R2 := fun x y H Q => ∃ z i, x = .str z ∧ y = .int i ∧ 0 ≤ i ∧ i ≤ 1 ∧ Q (.str (mulS z i)) H
theorem op_mulS : OpR X (binaryOp .Mult) rMulS := by
  intro pins s σ H x y v u Q I rx ry h
  obtain ⟨z, i, rfl, rfl, h0, h1, q⟩ := h
  obtain ⟨t, rfl⟩ := rx
  obtain ⟨t', rfl⟩ := ry
  have : i = 0 ∨ i = 1 := by omega
  rcases this with rfl | rfl
  · exact PySem.P.mul_str_none (by decide) (by decide) ⟨.str Str.empty, H, I.tok _, ⟨_, rfl⟩, q⟩
  · exact PySem.P.mul_str (by decide) (fun _ e => absurd e (by simp)) (fun _ e => absurd e (by simp)) ⟨.str z, H, I, ⟨_, rfl⟩, q⟩
theorem DX.mulS {f : S → Str} {g : S → Int} (ha : DX K X Δ a (tStr K) m1 c1 Δ1 f ta) (hb : DX K X Δ1 b (tInt K) m2 c2 Δ2 g tb) : DX K X Δ (.BinOp a .Mult b pos) (tStr K) (m1 ++ m2) (c1 ++ (c2 ++ [fun s => 0 ≤ g s ∧ g s ≤ 1])) Δ2 (fun s => Dx.mulS (f s) (g s)) (tOp rMulS ta tb) :=
  DX.bin (τ := tStr K) (cc := [fun (x : Str) (y : Int) => 0 ≤ y ∧ y ≤ 1]) (g := fun (x : Str) (y : Int) => Dx.mulS x y) (fun x y v u F H sm r1 r2 hc Q q => ⟨x, y, r1.1, r2, hc.1.1, hc.1.2, q _ F H (Gr.refl sm) ⟨rfl, by unfold Dx.mulS; split; exact r1.2; exact ok_empty⟩⟩) ha hb fun p q => pe_op op_mulS p q
/-- len(text) -/
theorem DX.lenS {f : S → Str} (hm : X.mg "len" = none) (he : DX K X Δ e (tStr K) ms c1 Δ1 f ta) (hg : Gl X "len" := by rfl) (hs : starEach [e] X.env = (false, eval e X.env) :: starEach [] X.env := by rfl) (hpl : (backTo pos (starEach [] X.env)).any (·.1) = false := by rfl) :
    DX K X Δ (.Call (.Name "len" px) [e] [] pos) (tInt K) ms (c1 ++ [fun s => (f s).length ≤ sizeLine]) Δ1 (fun s => ((f s).length : Int)) (tCB (fun xs H Q => ∃ z, xs = [.str z] ∧ z.length ≤ sizeLine ∧ Q (.int z.length) H) (tCons ta tNil)) :=
  DX.call1 (τ1 := tInt K) (cc := [fun (x : Str) => x.length ≤ sizeLine]) (g := fun (x : Str) => (x.length : Int)) call_len_str (fun v x F H sm r hc Q q => ⟨x, by rw [r.1], hc.1, q _ F H (Gr.refl sm) rfl⟩) hm PySem.boot_len he hg (by decide) (by decide) hs hpl
/-- x <= y, x < y -/
theorem DX.leS {f g : S → Str} (ha : DX K X Δ a (tStr K) m1 c1 Δ1 f ta) (hb : DX K X Δ1 b (tStr K) m2 c2 Δ2 g tb) : DX K X Δ (.Compare a [.LtE] [b] pos) (tBool K) (m1 ++ m2) (c1 ++ (c2 ++ [])) Δ2 (fun s => Dx.leS (f s) (g s)) (tOp (fun x y H Q => ∃ i j, x = .str i ∧ y = .str j ∧ Q (.bl (!decide (j.cps.toList < i.cps.toList))) H) ta tb) :=
  DX.bin (τ := tBool K) (cc := []) (g := fun (x y : Str) => Dx.leS x y) (fun x y v u F H sm r1 r2 _ Q q => ⟨x, y, r1.1, r2.1, q _ F H (Gr.refl sm) rfl⟩) ha hb fun p q => pe_cmpR op_le_str p q (nomark _)
/-- x[i] -/
theorem DX.ixS {f : S → Str} {g : S → Int} (ha : DX K X Δ a (tStr K) m1 c1 Δ1 f ta) (hb : DX K X Δ1 b (tInt K) m2 c2 Δ2 g tb) (hp : PlainIx b := by exact fun _ _ => rfl) : DX K X Δ (.Subscript a b pos) (tStr K) (m1 ++ m2) (c1 ++ (c2 ++ [fun s => IxOk (charsS (f s)) (g s) ∧ (f s).length ≤ sizeLine])) Δ2 (fun s => chS (f s) (g s)) (tOp rIxS ta tb) :=
  DX.bin (τ := tStr K) (cc := [fun (x : Str) (i : Int) => IxOk (charsS x) i ∧ x.length ≤ sizeLine]) (g := fun (x : Str) (i : Int) => chS x i) (fun x y v u F H sm r1 r2 hc Q q => by
    obtain ⟨j, e1, e2⟩ := ix_at (d := Str.empty) hc.1.1
    have e2' : (charsS x)[j]? = some (chS x y) := e2
    unfold charsS at e2'
    rw [List.getElem?_map] at e2'
    obtain ⟨c, h1, h2⟩ := Option.map_eq_some_iff.mp e2'
    refine ⟨x, y, c, r1.1, r2, hc.1.2, ?_, ?_⟩
    · unfold atI
      rw [show x.cps.toList.length = (charsS x).length by simp [charsS], e1]
      exact h1
    · rw [h2]
      exact q _ F H (Gr.refl sm) ⟨rfl, ok_char r1.2 _ (List.mem_of_getElem? e2)⟩) ha hb fun p q => pe_ix ix_str p q hp
/-- x[lo:hi] -/
theorem DX.slS {f : S → Str} {flo fhi : S → Option Int} (ha : DX K X Δ a (tStr K) m1 c1 Δ1 f ta) (h1 : DPo K X Δ1 lo m2 c2 Δ2 flo tlo) (h2 : DPo K X Δ2 hi m3 c3 Δ3 fhi thi) : DX K X Δ (.Subscript a (.Slice lo hi none p2) pos) (tStr K) (m1 ++ (m2 ++ m3)) (c1 ++ (c2 ++ (c3 ++ [fun s => (f s).length ≤ sizeLine]))) Δ3 (fun s => cutT (f s) (flo s) (fhi s)) (tSl rSlS ta tlo thi) := by
  obtain ⟨d1, p1, r1⟩ := ha
  obtain ⟨d2, q2, r2⟩ := h1
  obtain ⟨d3, q3, r3⟩ := h2
  refine ⟨d1.trans (d2.trans d3), pe_slice sl_str p1 q2 q3, fun s F H σ hh sm hc Q q => ?_⟩
  obtain ⟨k1, k2⟩ := conj_app hc
  obtain ⟨k2, k3⟩ := conj_app k2
  obtain ⟨k3, k4, _⟩ := conj_app k3
  refine r1 s F H σ hh sm k1 _ fun v F1 H1 g1 hh1 w1 => r2 s F1 H1 σ hh1 g1.fh k2 _ fun F2 H2 g2 hh2 => r3 s F2 H2 σ hh2 g2.fh k3 _ fun F3 H3 g3 hh3 => ⟨f s, w1.1, k4, ?_⟩
  have g12 : Gr (MsAt (m1 ++ (m2 ++ m3)) σ) F H F3 H3 := (g1.mono (msAt_l (m2 := m2 ++ m3))).trans ((g2.mono (fun a h => msAt_r (m1 := m1) a (msAt_l (m2 := m3) a h))).trans (g3.mono fun a h => msAt_r (m1 := m1) a (msAt_r (m1 := m2) a h)))
  exact q _ F3 H3 g12 hh3 ⟨rfl, ok_cut _ _ w1.2⟩
/-- x.startswith(y) -/
theorem DX.startsS {f g : S → Str} (ha : DX K X Δ a (tStr K) m1 c1 Δ1 f ta) (hb : DX K X Δ1 b (tStr K) m2 c2 Δ2 g tb) (hs : starEach [b] X.env = [(false, eval b X.env)] := by rfl) (hbase : attributeBase a "startswith" X.env (eval a X.env) = eval a X.env := by rfl) (hline : (apos.endLine == pos.line) = true := by rfl) :
    DX K X Δ (.Call (.Attribute a "startswith" apos) [b] [] pos) (tBool K) (m1 ++ m2) (c1 ++ c2) Δ2 (fun s => Txt.startswith (f s) (g s)) (tM1 (fun x xs H Q => ∃ a b, x = .str a ∧ xs = [.str b] ∧ Q (.bl (Txt.startswith a b)) H) ta tb) := by
  obtain ⟨d1, p1, r1⟩ := ha
  obtain ⟨d2, p2, r2⟩ := hb
  refine ⟨d1.trans d2, pe_m1 PySem.F.slot_str_startswith PySem.F.type_str_startswith mt_startswith p1 p2 hs hbase hline, fun s F H σ hh sm hc Q q => ?_⟩
  obtain ⟨k1, k2⟩ := conj_app hc
  refine r1 s F H σ hh sm k1 _ fun v F1 H1 g1 hh1 w1 => ⟨⟨f s, w1.1⟩, r2 s F1 H1 σ hh1 g1.fh k2 _ fun u F2 H2 g2 hh2 w2 => ⟨f s, g s, w1.1, by rw [w2.1], ?_⟩⟩
  exact q _ F2 H2 ((g1.mono (msAt_l (m2 := m2))).trans (g2.mono (msAt_r (m1 := m1)))) hh2 rfl
/-- x.split(y) -/
theorem paired_strs : ∀ {xs : List Str}, (∀ x ∈ xs, PyData.strOk x = true) → ∀ F : Hp, Paired ((tStr K).rep F) (xs.map V.str) xs
  | [], _, _ => .nil
  | x :: xs, h, F => .cons ⟨rfl, h x List.mem_cons_self⟩ (paired_strs (fun y hy => h y (List.mem_cons_of_mem _ hy)) F)
theorem strs_paired {F : Hp} : ∀ {vs : List V} {xs : List Str}, Paired ((tStr K).rep F) vs xs → vs = xs.map V.str ∧ ∀ x ∈ xs, PyData.strOk x = true
  | _, _, .nil => ⟨rfl, fun _ h => nomatch h⟩
  | _, _, .cons r t => by
    obtain ⟨h1, h2⟩ := strs_paired t
    refine ⟨by rw [r.1, h1]; rfl, fun x hx => ?_⟩
    rcases List.mem_cons.mp hx with e | hx
    · rw [e]; exact r.2
    · exact h2 x hx
theorem DO.splitS {f g : S → Str} (ha : DX K X Δ a (tStr K) m1 c1 Δ1 f ta) (hb : DX K X Δ1 b (tStr K) m2 c2 Δ2 g tb) (hs : starEach [b] X.env = [(false, eval b X.env)] := by rfl) (hbase : attributeBase a "split" X.env (eval a X.env) = eval a X.env := by rfl) (hline : (apos.endLine == pos.line) = true := by rfl) :
    DO K X Δ (.Call (.Attribute a "split" apos) [b] [] pos) (oList (tStr K)) (m1 ++ m2) (c1 ++ (c2 ++ [fun s => ((g s).length == 0) = false ∧ (f s).length + 2 ≤ sizeLine ∧ (Txt.split (f s) (g s)).length ≤ sizeLine])) Δ2 (fun s => Txt.split (f s) (g s)) (tM1 (fun x xs H Q => ∃ a b, x = .str a ∧ xs = [.str b] ∧ (b.length == 0) = false ∧ a.length + 2 ≤ sizeLine ∧ rNewStrs (Txt.split a b) H Q) ta tb) := by
  obtain ⟨d1, p1, r1⟩ := ha
  obtain ⟨d2, p2, r2⟩ := hb
  refine ⟨d1.trans d2, pe_split p1 p2 hs hbase hline, fun s F H σ hh sm hc Q q => ?_⟩
  obtain ⟨k1, k2⟩ := conj_app hc
  obtain ⟨k2, ⟨k3, k4, k5⟩, _⟩ := conj_app k2
  refine r1 s F H σ hh sm k1 _ fun v F1 H1 g1 hh1 w1 => ⟨⟨f s, w1.1⟩, r2 s F1 H1 σ hh1 g1.fh k2 _ fun u F2 H2 g2 hh2 w2 => ⟨f s, g s, w1.1, by rw [w2.1], k3, k4, fun p n => ?_⟩⟩
  have ow : (oList (tStr K)).own F2 (.lst ((Txt.split (f s) (g s)).map V.str)) (Txt.split (f s) (g s)) := ⟨_, rfl, paired_strs (ok_split w1.2) F2, k5⟩
  obtain ⟨g3, fn, e3⟩ := own_of_new (ω := oList (tStr K)) g2.fh n ow
  have g12 := (g1.mono (msAt_l (m2 := m2))).trans (g2.mono (msAt_r (m1 := m1)))
  exact q p _ F2 _ (g12.trans g3.of0) (hh2.grow g3) (g12.dom p n) fn e3 ow
/-- x.join(list of texts) -/
theorem DX.joinS {f : S → Str} {g : S → List Str} (ha : DX K X Δ a (tStr K) m1 c1 Δ1 f ta) (hb : DX K X Δ1 b (tList (tStr K)) m2 c2 Δ2 g tb) (hK : X.K = K := by rfl) (hs : starEach [b] X.env = [(false, eval b X.env)] := by rfl) (hbase : attributeBase a "join" X.env (eval a X.env) = eval a X.env := by rfl) (hline : (apos.endLine == pos.line) = true := by rfl) :
    DX K X Δ (.Call (.Attribute a "join" apos) [b] [] pos) (tStr K) (m1 ++ m2) (c1 ++ (c2 ++ [fun s => ((g s).map (·.length)).sum + (g s).length * (f s).length ≤ 16777216])) Δ2 (fun s => Txt.join (f s) (g s)) (tM1 (fun x xs H Q => ∃ a p, ∃ ys : List Str, x = .str a ∧ xs = [.ref p] ∧ (SqL X.K H p (ys.map V.str) ∨ SqT X.K H p (ys.map V.str)) ∧
      (ys.map (·.length)).sum + ys.length * a.length ≤ 16777216 ∧ Q (.str (Txt.join a ys)) H) ta tb) := by
  subst hK
  obtain ⟨d1, p1, r1⟩ := ha
  obtain ⟨d2, p2, r2⟩ := hb
  refine ⟨d1.trans d2, pe_join p1 p2 hs hbase hline, fun s F H σ hh sm hc Q q => ?_⟩
  obtain ⟨k1, k2⟩ := conj_app hc
  obtain ⟨k2, k3, _⟩ := conj_app k2
  refine r1 s F H σ hh sm k1 _ fun v F1 H1 g1 hh1 w1 => ⟨⟨f s, w1.1⟩, r2 s F1 H1 σ hh1 g1.fh k2 _ fun u F2 H2 g2 hh2 ⟨l, vs, eu, el, pr, z⟩ => ?_⟩
  obtain ⟨ev, ok⟩ := strs_paired pr
  subst ev
  exact ⟨f s, l, g s, w1.1, by rw [eu], .inl (.inl (.inl (g2.fh _ _ el))), k3, q _ F2 H2 ((g1.mono (msAt_l (m2 := m2))).trans (g2.mono (msAt_r (m1 := m1)))) hh2 ⟨rfl, ok_join w1.2 ok⟩⟩
/-- for c in text -/
theorem walks_str {F0 : Hp} {x : Str} (h : PyData.strOk x = true) (z : x.length ≤ sizeLine) : Walks K (Its x) F0 (tStr K) (charsS x) where
  go := fun i c F H s1 s2 e => by
    unfold charsS at e
    rw [List.getElem?_map] at e
    obtain ⟨d, h1, h2⟩ := Option.map_eq_some_iff.mp e
    have hi : i < x.cps.size := by have := (List.getElem?_eq_some_iff.mp h1).1; simpa using this
    refine ⟨hi, fun v H' ⟨eH, d', h3, ev⟩ => ?_⟩
    have : d' = d := by
      rw [← Array.getElem?_toList, h1] at h3
      cases h3; rfl
    subst this eH
    exact ⟨F, Gr.refl s2, by rw [ev, ← h2], ok_char h _ (List.mem_map.mpr ⟨_, List.mem_of_getElem? h1, h2⟩)⟩
  stop := fun i F H s1 s2 e => by
    have : (charsS x).length ≤ i := e
    rw [charsS_len] at this
    exact this
  len := by rw [charsS_len]; exact z
theorem DI.str {f : S → Str} (he : DX K X Δ e (tStr K) ms c1 Δ1 f ta) : DI K X Δ tg e (tStr K) ms (c1 ++ [fun s => (f s).length ≤ sizeLine]) Δ1 (fun s => charsS (f s)) (iStr ta) := by
  obtain ⟨d1, p, r⟩ := he
  refine ⟨d1, pi_str p, fun s F H σ hh sm hc R q => ?_⟩
  obtain ⟨k1, k2, _⟩ := conj_app hc
  exact r s F H σ hh sm k1 _ fun v F1 H1 g1 hh1 r1 => ⟨f s, r1.1, q _ F1 H1 g1 hh1 (walks_str r1.2 k2)⟩
/-! #### chains of texts -/
def rLeS : R2 := fun x y H Q => ∃ i j, x = .str i ∧ y = .str j ∧ Q (.bl (Dx.leS i j)) H
theorem op_leS' : OpR X (compareOp .LtE) rLeS := op_le_str
theorem chainS_sem {fa fb fc : S → Str} {tc : TE} {c : Expr} (ha : DX K X Δ a (tStr K) m1 c1 Δ1 fa ta) (hb : DX K X Δ1 b (tStr K) m2 c2 Δ2 fb tb) (hc : DX K X Δ2 c (tStr K) [] c3 Δ2 fc tc) :
    ∀ s F H σ, Holds Δ s F H σ → Same F H → Conj (c1 ++ (c2 ++ guardT (fun s => Dx.leS (fa s) (fb s)) c3)) s → ∀ Q : VK, (∀ F' H', Gr (MsAt (m1 ++ m2) σ) F H F' H' → Holds Δ2 s F' H' σ → Q (.bl (Dx.leS (fa s) (fb s) && Dx.leS (fb s) (fc s))) H') → tChain rLeS rLeS ta tb tc σ H Q := by
  obtain ⟨d1, p1, r1⟩ := ha
  obtain ⟨d2, p2, r2⟩ := hb
  obtain ⟨d3, p3, r3⟩ := hc
  intro s F H σ hh sm hcs Q q
  obtain ⟨k1, k2⟩ := conj_app hcs
  obtain ⟨k2, k3⟩ := conj_app k2
  refine r1 s F H σ hh sm k1 _ fun v F1 H1 g1 hh1 e1 => r2 s F1 H1 σ hh1 g1.fh k2 _ fun w F2 H2 g2 hh2 e2 => ⟨fa s, fb s, e1.1, e2.1, Dx.leS (fa s) (fb s), rfl, ?_⟩
  have g12 := (g1.mono (msAt_l (m2 := m2))).trans (g2.mono (msAt_r (m1 := m1)))
  cases e : Dx.leS (fa s) (fb s) with
  | false =>
    rw [if_neg (by decide)]
    have := q F2 H2 g12 hh2
    rw [e] at this
    exact this
  | true =>
    rw [if_pos rfl]
    refine r3 s F2 H2 σ hh2 g2.fh (guardT_conj (g := fun s => Dx.leS (fa s) (fb s)) e k3) _ fun z F3 H3 g3 hh3 e3 => ⟨fb s, fc s, e2.1, e3.1, ?_⟩
    rw [msAt_nil] at g3
    have := q F3 H3 (g12.trans g3.of0) hh3
    rw [e] at this
    exact this
theorem DX.chainS {fa fb fc : S → Str} {tc : TE} {c : Expr} (ha : DX K X Δ a (tStr K) m1 c1 Δ1 fa ta) (hb : DX K X Δ1 b (tStr K) m2 c2 Δ2 fb tb) (hc : DX K X Δ2 c (tStr K) [] c3 Δ2 fc tc) (hm : lastMarks [.LtE, .LtE] [b, c] = false := by with_unfolding_all rfl) :
    DX K X Δ (.Compare a [.LtE, .LtE] [b, c] pos) (tBool K) (m1 ++ m2) (c1 ++ (c2 ++ guardT (fun s => Dx.leS (fa s) (fb s)) c3)) Δ2 (fun s => Dx.leS (fa s) (fb s) && Dx.leS (fb s) (fc s)) (tChain rLeS rLeS ta tb tc) :=
  ⟨ha.1.trans hb.1, pe_chain op_leS' op_leS' ha.2.1 hb.2.1 hc.2.1 hm, fun s F H σ hh sm hcs Q q => chainS_sem ha hb hc s F H σ hh sm hcs Q fun F1 H1 g1 hh1 => q _ F1 H1 g1 hh1 rfl⟩
end
end Dx

/-! Dx, part W: a text among two. -/
namespace Dx
open PySem PySem.Spec PyProof PyProof.Rows L2
section
variable {K : PySem.W.Frag} {X : Cx} {S R : Type} {Δ Δ1 Δ2 : Ctx K S} {e a b : Expr} {pos p' px apos : Pos} {m1 m2 : List Nat} {c1 c2 cs : List (S → Prop)} {ta tb : TE} {f : S → Str} {g : S → Str × Str}
theorem eqV_str (a b : Str) : eqV (.str a) (.str b) = decide (a = b) := by show (a == b) = _; exact Bool.beq_eq_decide_eq a b
theorem inV_two (x a b : Str) : inV (.str x) [.str a, .str b] = decide (x = a ∨ x = b) := by
  show (eqV (.str a) (.str x) || (eqV (.str b) (.str x) || false)) = _
  rw [eqV_str, eqV_str, Bool.or_false]
  by_cases h1 : x = a <;> by_cases h2 : x = b
  · simp [← h1, ← h2]
  · simp [← h1]
  · simp [← h2]
  · simp [h1, h2, Ne.symm h1, Ne.symm h2]
theorem r2_inTS {neg : Bool} : R2ok K (rIn K neg) (tStr K) (tTp [tStr K, tStr K]) (tBool K) [] (fun (x : Str) (xs : Str × Str) => if neg then !decide (x = xs.1 ∨ x = xs.2) else decide (x = xs.1 ∨ x = xs.2)) := fun (x : Str) (y : Str × Str) v u F H sm r1 r2 _ Q q => by
  obtain ⟨a, vs, ev, sq, w1, r, e1, r3, w2, e2, r4⟩ := r2
  rw [r1.1, ev]
  rw [r3.1] at e1
  rw [r4.1] at e2
  subst e1 e2
  refine ⟨a, _, rfl, .inr (.inl (.inl (sm _ _ sq))), rfl, rfl, ?_⟩
  rw [show inV (.str x) [V.str y.1, V.str y.2] = decide (x = y.1 ∨ x = y.2) from inV_two x y.1 y.2]
  exact q _ F H (Gr.refl sm) rfl
theorem DX.inTS (ha : DX K X Δ a (tStr K) m1 c1 Δ1 f ta) (hb : DX K X Δ1 b (tTp [tStr K, tStr K]) m2 c2 Δ2 g tb) (hK : X.K = K := by rfl) (hmk : behindInMarks .In b = false := by with_unfolding_all rfl) : DX K X Δ (.Compare a [.In] [b] pos) (tBool K) (m1 ++ m2) (c1 ++ (c2 ++ [])) Δ2 (fun s => decide (f s = (g s).1 ∨ f s = (g s).2)) (tOp (rIn K false) ta tb) := by
  subst hK
  exact DX.bin (τ := tBool X.K) (cc := []) (g := fun (x : Str) (xs : Str × Str) => decide (x = xs.1 ∨ x = xs.2)) (r2_inTS (neg := false)) ha hb fun p q => pe_cmpR op_in_seq p q hmk
theorem DX.ninTS (ha : DX K X Δ a (tStr K) m1 c1 Δ1 f ta) (hb : DX K X Δ1 b (tTp [tStr K, tStr K]) m2 c2 Δ2 g tb) (hK : X.K = K := by rfl) (hmk : behindInMarks .NotIn b = false := by with_unfolding_all rfl) : DX K X Δ (.Compare a [.NotIn] [b] pos) (tBool K) (m1 ++ m2) (c1 ++ (c2 ++ [])) Δ2 (fun s => !decide (f s = (g s).1 ∨ f s = (g s).2)) (tOp (rIn K true) ta tb) := by
  subst hK
  exact DX.bin (τ := tBool X.K) (cc := []) (g := fun (x : Str) (xs : Str × Str) => !decide (x = xs.1 ∨ x = xs.2)) (r2_inTS (neg := true)) ha hb fun p q => pe_cmpR op_notIn_seq p q hmk
theorem DT.inTS (ha : DX K X Δ a (tStr K) m1 c1 Δ1 f ta) (hb : DX K X Δ1 b (tTp [tStr K, tStr K]) m2 c2 Δ2 g tb) (hK : X.K = K := by rfl) (hmk : behindInMarks .In b = false := by with_unfolding_all rfl) : DT K X Δ (.Compare a [.In] [b] pos) (m1 ++ m2) (c1 ++ (c2 ++ [])) Δ2 (fun s => decide (f s = (g s).1 ∨ f s = (g s).2)) (tTest (tOp (rIn K false) ta tb)) := by
  subst hK
  exact DT.bin (cc := []) (g := fun (x : Str) (xs : Str × Str) => decide (x = xs.1 ∨ x = xs.2)) (r2_inTS (neg := false)) ha hb fun p q => pt_cmpR op_in_seq p q hmk
theorem DT.ninTS (ha : DX K X Δ a (tStr K) m1 c1 Δ1 f ta) (hb : DX K X Δ1 b (tTp [tStr K, tStr K]) m2 c2 Δ2 g tb) (hK : X.K = K := by rfl) (hmk : behindInMarks .NotIn b = false := by with_unfolding_all rfl) : DT K X Δ (.Compare a [.NotIn] [b] pos) (m1 ++ m2) (c1 ++ (c2 ++ [])) Δ2 (fun s => !decide (f s = (g s).1 ∨ f s = (g s).2)) (tTest (tOp (rIn K true) ta tb)) := by
  subst hK
  exact DT.bin (cc := []) (g := fun (x : Str) (xs : Str × Str) => !decide (x = xs.1 ∨ x = xs.2)) (r2_inTS (neg := true)) ha hb fun p q => pt_cmpR op_notIn_seq p q hmk
end
end Dx

/-! Dx, part X: sorted(set(ints)), few or many. -/
namespace L2
open PySem PySem.Spec PyProof PyProof.Rows
section
variable {P : Program} {w : World} {A : Around} {E : Value → Shared → Prop} {s : Shared}
abbrev bare (w : World) : Obj := { cls := .type "set", dict := none, data := .set #[] 0 (.fresh 0 0 (!w.params.followText "set-order")) }
theorem bareMade (x : Value) {G : Value → Shared → Prop} (yes : G (.ref s.heap.objs.size) { s with heap := s.heap.push (bare w) }) :
    codeAny (model P w) A (.call (.builtin "set.__new__") ⟨[.type "set", x], []⟩) (wants G E) s := by
  refine codeAny_of_tree ?_
  show wpAny _ A.in1 (do checkBuiltinCall "set.__new__" ⟨[.type "set", x], []⟩
                         again (.builtin "set.__new__" ⟨[.type "set", x], []⟩)) _ _ s
  refine wpAny_bind (wpAny_of_eq (PySem.F.newCall_set_1 x) (wpAny_pure ⟨plainId_quiet F.plain_set_new _, ?_⟩))
  refine codeAny_builtin F.entry_set_new ?_
  rw [Around.under_plainId F.plain_set_new _]
  unfold Builtin.«set.__new__» Builtin.Frozenset.newClass
  have selfSub := sub_set_self
  obtain ⟨s1, s2, s3, s4, s5⟩ := s
  dsimp only
  wp_walk
  refine wpAny_askSetting (wpAny_pure ?_)
  dsimp only
  simp only [newObj]
  exact wpAny_bind (wpAny_alloc (wpAny_pure (wpAny_pure yes)))
theorem take_mem {ks : List Int} {i : Nat} {k j : Int} (e : ks[i]? = some k) : (decide (j ∈ ks.take i) || decide (j = k)) = decide (j ∈ ks.take (i + 1)) := by
  rw [List.take_add_one, e, ← Bool.decide_or]
  apply decide_eq_decide.mpr
  simp
/-- every int of the list goes into the set -/
theorem fillLoop {R : PySem.Result → Shared → Prop} {I : Addr} {fp wr : List Addr} {G : Array GenState → Array GenState → Prop} {n : Nat} {Pv : Nat → Value → Prop} {St : Nat → Shared → Prop} (W : WalksS P w A.in1 I fp wr G n Pv St) {D : Addr} (hD : D ∉ fp)
    {ks : List Int} (hn : ks.length = n) (hv : ∀ i v, Pv i v → ∃ k t, ks[i]? = some k ∧ v = .int k t) (room : n + 1 < scanBound) :
    ∀ (m i : Nat) (s : Shared), n - i = m → i ≤ n → St i s → (∃ c, c ≤ i ∧ SetR w s.heap D (fun j => decide (j ∈ ks.take i)) c) →
      (∀ s' c, Moved (D :: wr) G s s' → c ≤ n → SetR w s'.heap D (fun j => decide (j ∈ ks)) c → R (.ok (.ret .none)) s') →
      codeAny (model P w) A (.builtin "set.update.loop" ⟨[.ref D, .ref I], []⟩) R s := by
  have hDw : D ∉ wr := fun z => hD (W.sub _ z)
  have up : ∀ b ∈ wr, b ∈ D :: wr := fun b z => List.mem_cons_of_mem _ z
  intro m
  induction m with
  | zero =>
    intro i s e1 e2 st ⟨c, hc, hs⟩ fin
    obtain rfl : i = n := by omega
    refine codeAny_builtin F.entry_set_update_loop ?_
    rw [Around.under_plainId F.plain_set_update_loop _]
    show wpAny _ A.in1 (pyNext (.ref I) >>= _) _ _ s
    refine wpAny_bind (W.done s _ _ st fun s1 mv => ?_)
    show wpAny _ A.in1 (ret Value.none) _ _ s1
    refine wpAny_pure (fin s1 c (mv.mono up) hc ?_)
    have hs1 := hs.at (h' := s1.heap) fun o z => mv.heap D _ hDw z
    rwa [List.take_of_length_le (by omega)] at hs1
  | succ m ih =>
    intro i s e1 e2 st ⟨c, hc, hs⟩ fin
    have lt : i < n := by omega
    refine codeAny_builtin F.entry_set_update_loop ?_
    rw [Around.under_plainId F.plain_set_update_loop _]
    show wpAny _ A.in1 (pyNext (.ref I) >>= _) _ _ s
    refine wpAny_bind (W.item i s _ _ lt st fun v s1 pv st1 mv => ?_)
    obtain ⟨k, t, ek, rfl⟩ := hv i v pv
    have hs1 := hs.at (h' := s1.heap) fun o z => mv.heap D _ hDw z
    show wpAny _ A.in1 (holding [Value.int k t] (setAdd D (.int k t)) >>= _) _ _ s1
    refine wpAny_bind (wpAny_holding ?_)
    unfold setAdd
    refine wpAny_holding (wpAny_bind ((intKind P w).pyHash (k := k) (intKind_is _ _ _ _) ?_))
    refine setR_add_hashed (s := { s1 with toks := s1.toks + 1 }) hs1 (by omega) fun h2 sb r2 => ?_
    refine wpAny_pure ⟨plainId_quiet F.plain_set_update_loop _, ?_⟩
    have r3 : SetR w h2 D (fun j => decide (j ∈ ks.take (i + 1))) (if (fun j => decide (j ∈ ks.take i)) k = true then c else c + 1) := r2.congr fun j => (take_mem ek).symm
    refine ih (i + 1) _ (by omega) lt (W.frame _ s1 _ _ st1 (Nat.le_succ _) fun b hb o z => ?_) ⟨_, ?_, r3⟩ fun s3 c3 mv3 hc3 r4 => ?_
    · rw [sb.2 b fun (q : b = D) => hD (q ▸ hb)]; exact z
    · split <;> omega
    · refine fin s3 c3 (Moved.trans W.gtrans ((mv.mono up).then_heap (Nat.le_succ _) fun b o hb z => ?_) mv3) hc3 r4
      rw [sb.2 b fun (q : b = D) => hb (q ▸ List.mem_cons_self)]; exact z
set_option maxHeartbeats 3200000 in
/-- set(list of ints) -/
theorem setFromInts {l : Addr} {its : Array Value} {ks : List Int} {Q : Value → Shared → Prop} (calm : A.handled = none) (hl : s.heap.IsList l its) (hi : IntsAre its.toList ks) (room : its.size + 1 < scanBound)
    (yes : ∀ (h1 : Heap) (tk c : Nat), c ≤ its.size → SetR w h1 s.heap.objs.size (fun j => decide (j ∈ ks)) c → (∀ b o, s.heap.get? b = some o → h1.get? b = some o) → Q (.ref s.heap.objs.size) { s with heap := h1, toks := tk }) :
    wpAny (model P w) A (call (.type "set") [.ref l]) Q E s := by
  obtain ⟨c0, tl, hmro⟩ := F.called_set.mro
  have hmade := F.called_set.made
  have hsub := F.called_set.sub
  refine wpAny_call (codeAny_of_tree ?_)
  show wpAny _ _ (callAny (.type "set") _) _ _ _
  refine wpAny_pure ⟨Code.quiet_builtin _ (by decide +kernel), ?_⟩
  refine codeAny_builtin F.entry_type_call ?_
  rw [Around.under_plain (weight_type_call_type "set" [.ref l] []) rfl]
  have g1 := F.called_set.notType
  have g2 := F.called_set.canCreate
  have g3 := PySem.F.typeCall_set_1 (.ref l)
  repeat (any_goals (first | assumption | wp_step))
  refine codeAny_mono (bareMade (.ref l) (E := E) (G := fun r s1 => r = .ref s.heap.objs.size ∧ s1 = { s with heap := s.heap.push (bare w) }) ⟨rfl, rfl⟩) fun r s1 hr => ?_
  cases r with
  | error e => exact hr
  | ok fl =>
    cases fl with
    | ret obj =>
      obtain ⟨rfl, rfl⟩ := hr
      have gD : (s.heap.push (bare w)).get? s.heap.objs.size = some (bare w) := Heap.get?_push_size _ rfl
      have tyD : Shared.TypeIs { s with heap := s.heap.push (bare w) } (.ref s.heap.objs.size) "set" := ⟨_, gD, rfl⟩
      have hli := F.called_set.init.lookup
      have hbi := F.called_set.init.bind (.ref s.heap.objs.size)
      repeat (any_goals (first | assumption | wp_step))
      refine codeAny_mono (codeAny_call_builtin (R := wants (fun r s2 => r = .none ∧ ∃ h1 tk c, s2 = { s with heap := h1, toks := tk } ∧ c ≤ its.size ∧ SetR w h1 s.heap.objs.size (fun j => decide (j ∈ ks)) c ∧
          (∀ b o, s.heap.get? b = some o → h1.get? b = some o)) E) F.called_set.init.plain F.entry_set_init (PySem.check_set_init_1 tyD ?_)) fun r2 s2 hr2 => ?_
      · obtain ⟨ol, hol, hcl, nl, hdl⟩ := hl
        obtain ⟨o1, o2, o3, o4⟩ := ol
        simp only at hcl hdl
        subst hcl
        subst hdl
        have hol2 : (s.heap.push (bare w)).get? l = some { cls := .type "list", dict := o2, data := .seq its nl, slots := o4 } := Heap.get?_push_of_some _ hol
        have sls := PySem.F.sub_list_set
        have slf := PySem.F.sub_list_frozenset
        have nd : (Value.type "list" == Value.type "dict") = false := by decide
        have hl2 : (s.heap.push (bare w)).IsList l its := ⟨_, hol2, rfl, nl, rfl⟩
        unfold Builtin.«set.__init__» noKeywords Builtin.Frozenset.updateFrom
        generalize hPI : pyIter = PI
        wp_walk
        subst hPI
        refine wpAny_pyIter_list hl2 (wpAny_bind (wpAny_runValue ?_))
        have ll : l < s.heap.objs.size := Heap.lt_size hol
        have hh3 : A.in1.in1.in1.handled = none := by simp [calm]
        have sz1 : (s.heap.push (bare w)).objs.size = s.heap.objs.size + 1 := Heap.size_push ..
        have nI : l ≠ (s.heap.push (bare w)).objs.size := by rw [sz1]; exact Nat.ne_of_lt (Nat.lt_succ_of_lt ll)
        have nD : s.heap.objs.size ∉ [(s.heap.push (bare w)).objs.size, l] := by
          simp only [List.mem_cons, List.mem_singleton, List.not_mem_nil, or_false, not_or]
          exact ⟨by rw [sz1]; exact Nat.ne_of_lt (Nat.lt_succ_self _), Nat.ne_of_gt ll⟩
        have vals : ∀ (i : Nat) (v : Value), its[i]? = some v → ∃ k t, ks[i]? = some k ∧ v = .int k t := fun i v z => by
          obtain ⟨t, e⟩ := IntsAre.int_at hi i v (by rw [Array.getElem?_toList]; exact z)
          have li : i < its.size := (Array.getElem?_eq_some_iff.mp z).1
          have lk : ks.length = its.size := by rw [← IntsAre.length hi, Array.length_toList]
          refine ⟨ks[i]'(by omega), t, List.getElem?_eq_getElem (by omega), ?_⟩
          rw [e, List.getD_eq_getElem?_getD, List.getElem?_eq_getElem (by omega)]
          rfl
        have lk : ks.length = its.size := by rw [← IntsAre.length hi, Array.length_toList]
        refine fillLoop ((Walks.list hh3 _ l nI its).toS) nD lk vals room (its.size - 0) 0 _ (by omega) (Nat.zero_le _) ⟨⟨_, Heap.get?_push_size _ rfl, rfl, rfl⟩, hl2.push _⟩ ⟨0, Nat.le_refl _, ?_⟩ fun s3 c3 mv hc3 r3 => ?_
        · have r0 := (setR_fresh (h := s.heap) w).at (h' := (s.heap.push (bare w)).push { cls := .type "list_iterator", data := .fields #[.ref l, .int 0 0] }) fun o z => Heap.get?_push_of_some _ z
          exact r0.congr fun j => by simp
        · obtain ⟨h3, p3, d3, t3, q3⟩ := s3
          have eg : p3 = s.gens := mv.gens
          have ed : d3 = s.drawn := mv.drawn
          have eo : q3 = s.os := mv.os
          subst eg
          subst ed
          subst eo
          show wpAny _ _ _ _ _ _
          refine wpAny_pure ?_
          show wpAny _ _ (ret Value.none) _ _ _
          refine wpAny_pure ⟨rfl, h3, t3, c3, rfl, hc3, r3, fun b o z => ?_⟩
          have lb := Heap.lt_size z
          refine mv.heap b o ?_ (Heap.get?_push_of_some _ (Heap.get?_push_of_some _ z))
          simp only [List.mem_cons, List.mem_singleton, List.not_mem_nil, or_false, not_or]
          exact ⟨Nat.ne_of_lt lb, by rw [sz1]; exact Nat.ne_of_lt (Nat.lt_succ_of_lt lb)⟩
      · cases r2 with
        | error e => exact hr2
        | ok fl2 =>
          cases fl2 with
          | ret r =>
            obtain ⟨rfl, h1, tk, c, rfl, hc, hs, hk⟩ := hr2
            repeat (any_goals (first | assumption | wp_step))
            exact yes _ _ _ hc hs hk
          | _ => exact hr2.elim
    | _ => exact hr.elim
/-- sorted(set), any number of members -/
theorem sortedMany {a : Addr} {S : Int → Bool} {n : Nat} {Q : Value → Shared → Prop} (R : SetR w s.heap a S n) (calm : A.handled = none)
    (yes : ∀ s1 p (out : Array Value) (c : Nat) (ns : List Int), (∀ b o, s.heap.get? b = some o → s1.heap.get? b = some o) → s1.gens = s.gens → s1.os = s.os → s.heap.objs.size ≤ p →
      s1.heap.get? p = some (seqObj "list" out c) → IntsAre out.toList ns → ns.Pairwise (· < ·) → (∀ k, k ∈ ns ↔ S k = true) → ns.length = n → n < scanBound → Q (.ref p) s1) :
    wpAny (model P w) A (call (.builtin "sorted") [.ref a]) Q E s := by
  obtain ⟨o, es, ep, t, ho, ex, hd, ge, nod, mem, few, fits, hn, ris, led⟩ := R
  refine Calls.call_function_entry kind_sorted plain_sorted entry_sorted (args_sorted1 _) ?_
  unfold Builtin.«sorted»
  refine wpAny_bind (m := checkCount "sorted" 1 1 _) (wpAny_pure (wpAny_bind ?_))
  refine collect_set (A := A.in1) calm ⟨o, ho, ex.1, hd⟩ fits few ris led fun s1 vs keep grow eg eo pm => ?_
  have hI : IntsAre vs (vs.map SrtO.iv) := SrtO.ints_iv fun v hv => by
    obtain ⟨e, he, q⟩ := List.mem_map.mp (pm.mem_iff.mp hv)
    obtain ⟨k, tk, h1, _⟩ := ge e he
    exact ⟨k, tk, q ▸ h1⟩
  have lv : vs.length = n := by rw [pm.length_eq, List.length_map, Array.length_toList]; exact hn
  have lz : vs.length ≤ sizeLine := by
    have : scanBound ≤ sizeLine := by decide
    omega
  have pk : (vs.map SrtO.iv).Perm (es.toList.map keyOf) := by
    have q := pm.map SrtO.iv
    rw [List.map_map] at q
    refine q.trans (List.Perm.of_eq (List.map_congr_left fun e he => ?_))
    obtain ⟨k, tk, h1, _⟩ := ge e he
    show SrtO.iv e.2 = keyOf e
    unfold keyOf
    rw [h1]; rfl
  refine wpAny_bind (wpAny_newList ?_ lz)
  have gL : (s1.heap.push (seqObj "list" vs.toArray 0)).get? s1.heap.objs.size = some (seqObj "list" vs.toArray 0) := Heap.get?_push_size _ rfl
  refine wpAny_bind (wpAny_holding (wpAny_call_entry slot_list_sort ⟨_, gL, rfl⟩ entry_list_sort ?_ (args_list_sort _)))
  refine SrtO.list_sort_ord SrtO.swo_int gL lz (fun h2 => SrtO.ints_sortable hI h2) fun out sr sb => ⟨_, rfl, ?_⟩
  obtain ⟨k1, k2, k3⟩ := SrtO.ints_out hI sr sb
  obtain ⟨c, hc⟩ := sortedHeap_at (vs := vs) (out := out.toArray) gL
  have pn : (out.map SrtO.iv).Perm (es.toList.map keyOf) := k2.trans pk
  refine wpAny_pure ⟨_, rfl, yes _ s1.heap.objs.size out.toArray c _ (fun b u e => ?_) eg eo grow hc k1 (lt_of_le_nodup _ k3 (pn.nodup_iff.mpr nod)) (fun k => by rw [pn.mem_iff, ← mem k]) (by rw [pn.length_eq, List.length_map, Array.length_toList]; exact hn) (hn ▸ few)⟩
  have q := keep b u e
  have lb := Heap.lt_size q
  show (sortedHeap (s1.heap.push (seqObj "list" vs.toArray 0)) s1.heap.objs.size vs out.toArray).get? b = some u
  rw [sortedHeap_old (Nat.ne_of_lt lb) (by rw [size_push']; exact Nat.lt_succ_of_lt lb)]
  exact Heap.get?_push_of_some _ q
end
section
variable {X : Cx}
def rSetI (K : PySem.W.Frag) (w : World) : List V → Hp → VK → Prop := fun vs H Q => ∃ (a : Addr) (ks : List Int), vs = [V.ref a] ∧ SqL K H a (ks.map V.int) ∧ ks.length + 1 < scanBound ∧
  ∀ p c, H p = none → Q (.ref p) (upd H p (SetO w p (fun j => decide (j ∈ ks)) c))
theorem cr_setI (hc : X.calm = true) : CallR X (.type "set") (rSetI X.K X.w) := by
  intro pins s σ H vs us Q I r h
  obtain ⟨a, ks, rfl, hs, room, q⟩ := h
  obtain ⟨its, rv, hl, hz⟩ := I.list hs
  rw [Vals.ref1 r]
  have li : its.length = ks.length := by
    have := rv.length
    rw [List.length_map] at this
    exact this.symm
  refine setFromInts (I.ok.hd hc) hl.isList (by simpa using rv.ints) (by rw [List.size_toArray]; omega) fun h1 tk c hc2 r1 k1 => ?_
  exact ⟨.ref _, upd H s.heap.objs.size (SetO X.w s.heap.objs.size (fun j => decide (j ∈ ks)) c), I.laid (t' := tk) k1 (Nat.le_refl _) (setO_new r1), rfl, q _ c (I.hok.fresh (Nat.le_refl _))⟩
def rSortedM (w : World) : List V → Hp → VK → Prop := fun vs H Q => ∃ (a : Addr) (S : Int → Bool) (n : Nat), vs = [V.ref a] ∧ H a = some (SetO w a S n) ∧
  ∀ (ns : List Int) (p : Addr), ns.Pairwise (· < ·) → (∀ k : Int, k ∈ ns ↔ S k = true) → ns.length < scanBound → H p = none → Q (.ref p) (upd H p (.lst (ns.map V.int)))
theorem cr_sortedM (hc : X.calm = true) : CallR X (.builtin "sorted") (rSortedM X.w) := by
  intro pins s σ H vs us Q I r h
  obtain ⟨a, S, n, rfl, ha, q⟩ := h
  rw [Vals.ref1 r]
  refine sortedMany (setO_get I ha) (I.ok.hd hc) fun s1 p out c ns k g o hp hg hi hs hm hl hb => ?_
  have hlen : (ns.map V.int).length ≤ sizeLine := by
    rw [List.length_map, hl]
    have : scanBound ≤ sizeLine := by decide
    omega
  have hn : H p = none := I.hok.fresh hp
  have J : Inv X pins σ (upd H p (.lst (ns.map V.int))) { s with heap := s1.heap, gens := s1.gens, drawn := s1.drawn, toks := s1.toks } :=
    I.call (ch := []) (Un.laid k hp hn) (I.hok.laid k hp ⟨hlen, out.toList, c, vals_of_ints hi, hg⟩) (by rw [g]; exact I.bare) (fun _ z => nomatch z)
  have e : s1 = { s with heap := s1.heap, gens := s1.gens, drawn := s1.drawn, toks := s1.toks } := by
    obtain ⟨x1, x2, x3, x4, x5⟩ := s1
    obtain ⟨y1, y2, y3, y4, y5⟩ := s
    subst o
    rfl
  rw [e]
  exact ⟨.ref p, _, J, rfl, q ns p hs hm (by omega) hn⟩
end
end L2
namespace Dx
open PySem PySem.Spec PyProof PyProof.Rows L2
def insU (k : Int) : List Int → List Int
  | [] => [k]
  | x :: r => if k < x then k :: x :: r else if k = x then x :: r else x :: insU k r
/-- the ints of a list, each once, rising -/
def sortU (xs : List Int) : List Int := xs.foldr insU []
theorem insU_mem {k j : Int} : ∀ {l : List Int}, j ∈ insU k l ↔ j = k ∨ j ∈ l
  | [] => by simp [insU]
  | x :: r => by
    unfold insU
    split
    · simp
    · split
      · rename_i h; subst h; simp
      · rw [List.mem_cons, insU_mem (l := r), List.mem_cons]
        constructor
        · rintro (h | h | h) <;> simp [h]
        · rintro (h | h | h) <;> simp [h]
theorem insU_asc {k : Int} : ∀ {l : List Int}, l.Pairwise (· < ·) → (insU k l).Pairwise (· < ·)
  | [], _ => List.pairwise_singleton _ _
  | x :: r, h => by
    obtain ⟨h1, h2⟩ := List.pairwise_cons.mp h
    unfold insU
    split
    · rename_i lt
      refine List.pairwise_cons.mpr ⟨fun y hy => ?_, h⟩
      rcases List.mem_cons.mp hy with e | hy
      · rw [e]; exact lt
      · exact Int.lt_trans lt (h1 y hy)
    · split
      · exact h
      · refine List.pairwise_cons.mpr ⟨fun y hy => ?_, insU_asc h2⟩
        rcases insU_mem.mp hy with e | hy
        · omega
        · exact h1 y hy
theorem sortU_mem {j : Int} : ∀ {xs : List Int}, j ∈ sortU xs ↔ j ∈ xs
  | [] => by simp [sortU]
  | x :: xs => by
    show j ∈ insU x (sortU xs) ↔ _
    rw [insU_mem, sortU_mem, List.mem_cons]
theorem sortU_asc : ∀ xs : List Int, (sortU xs).Pairwise (· < ·)
  | [] => .nil
  | x :: xs => insU_asc (sortU_asc xs)
theorem asc_same {xs ys : List Int} (h1 : xs.Pairwise (· < ·)) (h2 : ys.Pairwise (· < ·)) (h : ∀ k, k ∈ xs ↔ k ∈ ys) : xs = ys :=
  sort_unique ((List.perm_ext_iff_of_nodup (h1.imp fun h => by omega) (h2.imp fun h => by omega)).mpr h) (h1.imp fun h => by omega) (h2.imp fun h => by omega)
section
variable {K : PySem.W.Frag} {X : Cx} {S : Type} {Δ Δ1 Δ2 : Ctx K S} {e : Expr} {pos px pos2 px2 : Pos} {τ L : Ty K} {ms : List Nat} {c1 : List (S → Prop)} {ta : TE}
/-- sorted(set(e)), ints -/
theorem DO.sortedSet {to : L.α → List Int} {f : S → L.α} (hl : LL L (tInt K) to) (hm : X.mg "sorted" = none) (hm2 : X.mg "set" = none) (he : DX K X Δ e L ms c1 Δ1 f ta) (hK : X.K = K := by rfl) (hcm : X.calm = true := by rfl) (hg : Gl X "sorted" := by rfl) (hg2 : Gl X "set" := by rfl)
    (hs : starEach [e] X.env = (false, eval e X.env) :: starEach [] X.env := by rfl) (hpl : (backTo pos2 (starEach [] X.env)).any (·.1) = false := by rfl)
    (hs2 : starEach [.Call (.Name "set" px2) [e] [] pos2] X.env = (false, eval (.Call (.Name "set" px2) [e] [] pos2) X.env) :: starEach [] X.env := by rfl) (hpl2 : (backTo pos (starEach [] X.env)).any (·.1) = false := by rfl) :
    DO K X Δ (.Call (.Name "sorted" px) [.Call (.Name "set" px2) [e] [] pos2] [] pos) (oList (tInt K)) ms (c1 ++ [fun s => (to (f s)).length + 1 < 4096]) Δ1 (fun s => sortU (to (f s))) (tCB (rSortedM X.w) (tCons (tCB (rSetI K X.w) (tCons ta tNil)) tNil)) := by
  subst hK
  obtain ⟨d1, p, r⟩ := he
  have p2 : PE X (.Call (.Name "set" px2) [e] [] pos2) (tCB (rSetI X.K X.w) (tCons ta tNil)) := pe_callTy (cr_setI hcm) hg2 hm2 (by decide +kernel) (pa_cons p pa_nil hs) (by decide) (by decide) hs hpl
  refine ⟨d1, pe_callB (cr_sortedM hcm) hg hm (by decide +kernel) (pa_cons p2 pa_nil hs2) (by decide) (by decide) hs2 hpl2, fun s F H σ hh sm hc Q q => ?_⟩
  obtain ⟨k1, k2, _⟩ := conj_app hc
  refine r s F H σ hh sm k1 _ fun v F1 H1 g1 hh1 r1 => ?_
  obtain ⟨a, vs, ev, sq, pr, z⟩ := hl r1
  have e1 := paired_ints pr
  subst e1
  refine ⟨a, to (f s), by rw [ev], g1.fh.seq sq, k2, fun p c n => ⟨p, _, c, rfl, upd_same, fun ns p3 h1 h2 h3 n3 => ?_⟩⟩
  have e2 : ns = sortU (to (f s)) := asc_same h1 (sortU_asc _) fun k => by rw [h2 k, sortU_mem, decide_eq_true_iff]
  subst e2
  have g2 : Gr (MsAt ms σ) F H F1 (upd H1 p (SetO X.w p (fun j => decide (j ∈ to (f s))) c)) := g1.trans (Gr.newO g1.fh n).of0
  have o : (oList (tInt X.K)).own F1 (.lst ((sortU (to (f s))).map V.int)) (sortU (to (f s))) := ⟨_, rfl, paired_intsR _, by
    have : scanBound ≤ sizeLine := by decide
    omega⟩
  obtain ⟨g3, fn, e3⟩ := own_of_new g2.fh n3 o
  exact q p3 _ F1 _ (g2.trans g3.of0) ((hh1.grow (Gr.newO g1.fh n)).grow g3) (g2.dom p3 n3) fn e3 o
end
end Dx

/-! Dx, part Y: what may be None, and what is not. -/
namespace Dx
open PySem PySem.Spec PyProof PyProof.Rows L2
section
variable {K : PySem.W.Frag} {X : Cx} {S : Type} {Δ Δ1 : Ctx K S} {e : Expr} {τ : Ty K} {ms : List Nat} {cs : List (S → Prop)} {ta : TE}
theorem nv_int {F : Hp} {v : V} {x : Int} (r : (tInt K).rep F v x) : v ≠ .non := fun z => by rw [z] at r; cases r
theorem DX.someO {f : S → τ.α} (hn : ∀ {F v x}, τ.rep F v x → v ≠ .non) (he : DX K X Δ e τ ms cs Δ1 f ta) : DX K X Δ e (tOpt τ) ms cs Δ1 (fun s => some (f s)) ta :=
  ⟨he.1, he.2.1, fun s F H σ hh sm hc Q q => he.2.2 s F H σ hh sm hc Q fun v F1 H1 g hh1 r => q v F1 H1 g hh1 ⟨hn r, r⟩⟩
theorem DX.getO (d : τ.α) {f : S → Option τ.α} (he : DX K X Δ e (tOpt τ) ms cs Δ1 f ta) : DX K X Δ e τ ms (cs ++ [fun s => (f s).isSome = true]) Δ1 (fun s => (f s).getD d) ta :=
  ⟨he.1, he.2.1, fun s F H σ hh sm hc Q q => by
    obtain ⟨k1, k2, _⟩ := conj_app hc
    refine he.2.2 s F H σ hh sm k1 Q fun v F1 H1 g hh1 r => q v F1 H1 g hh1 ?_
    obtain ⟨x, ex⟩ := Option.isSome_iff_exists.mp k2
    rw [ex] at r
    show τ.rep F1 v ((f s).getD d)
    rw [ex]
    exact r.2⟩
end
end Dx
namespace Dx
open PySem PySem.Spec PyProof PyProof.Rows L2
section
variable {K : PySem.W.Frag} {X : Cx} {S : Type} {Δ Δ1 : Ctx K S} {e tg : Expr} {τ : Ty K} {ms : List Nat} {cs : List (S → Prop)} {ta : TE}
theorem sqt_mono {F F' : Hp} {a : Addr} {vs : List V} (h : Same F F') (r : SqT K F a vs) : SqT K F' a vs := sqT_mono h r
theorem walks_tup {F0 : Hp} {a : Addr} {vs : List V} {xs : List τ.α} (h : SqT K F0 a vs) (p : Paired (τ.rep F0) vs xs) (z : xs.length ≤ sizeLine) : Walks K (Itt K a) F0 τ xs where
  go := fun i x F H s1 s2 e => by
    obtain ⟨v, ev, rv⟩ := paired_at p e
    refine ⟨⟨vs, v, sqT_mono s2 (sqT_mono s1 h), ev⟩, fun v' H' ⟨e1, e2⟩ => ?_⟩
    subst e1
    have e3 := e2 vs (sqT_mono s2 (sqT_mono s1 h))
    rw [ev] at e3; cases e3
    exact ⟨F, Gr.refl s2, τ.mono s1 rv⟩
  stop := fun i F H s1 s2 e => ⟨vs, sqT_mono s2 (sqT_mono s1 h), by rw [p.length]; exact e⟩
  len := z
/-- a pair walked -/
theorem DI.tup2 {f : S → τ.α × τ.α} (he : DX K X Δ e (tTp [τ, τ]) ms cs Δ1 f ta) (hK : X.K = K := by rfl) : DI K X Δ tg e τ ms cs Δ1 (fun s => [(f s).1, (f s).2]) (iTup K ta) := by
  subst hK
  obtain ⟨d1, p, r⟩ := he
  refine ⟨d1, pi_tup p, fun s F H σ hh sm hc R q => r s F H σ hh sm hc _ fun v F1 H1 g1 hh1 r1 => ?_⟩
  obtain ⟨a, vs, ev, hv, ra⟩ := r1
  have sq : SqT X.K F1 a vs := .inl (.inl hv)
  refine ⟨a, ev, ⟨vs, sqT_mono g1.fh sq⟩, q _ F1 H1 g1 hh1 (walks_tup sq ?_ (by show 2 ≤ sizeLine; decide))⟩
  obtain ⟨v1, r1, e1, w1, v2, e2, w2⟩ := ra
  subst e1
  subst e2
  exact .cons w1 (.cons w2 .nil)
end
end Dx
namespace Dx
open PySem PySem.Spec PyProof PyProof.Rows L2
section
variable {K : PySem.W.Frag} {X : Cx} {S : Type} {Δ Δ1 : Ctx K S} {b : Expr} {pos px : Pos} {τ : Ty K} {c2 : List (S → Prop)} {tb : TE} {i : Nat} {x : Str}
/-- an item of a list of one's own, the list not lent -/
theorem DX.ixOwn {f : S → List τ.α} {g : S → Int} (d : τ.α) (h : Δ[i]? = some (.ow (oList τ) f)) (hb : DX K X Δ b (tInt K) [] c2 Δ g tb) (hN : X.N[i]? = some x := by rfl) (hv : Vis X.env.scope x := by first | exact Or.inl rfl | exact Or.inr (Or.inl rfl) | exact Or.inr (Or.inr rfl)) (hd : (x == ("__debug__" : Str)) = false := by decide)
    (hcd : (x == ("__classdict__" : Str)) = false := by decide) (hp : PlainIx b := by exact fun _ _ => rfl) (hK : X.K = K := by rfl) :
    DX K X Δ (.Subscript (.Name x px) b pos) τ [] (c2 ++ [fun s => IxOk (f s) (g s)]) Δ (fun s => ixI d (f s) (g s)) (tOp (rIxL K) (tVar i) tb) := by
  subst hK
  obtain ⟨d1, p, r⟩ := hb
  refine ⟨d1, pe_ix ix_list (pe_var hN hv hd hcd) p hp, fun s F H σ hh sm hc Q q => ?_⟩
  obtain ⟨k1, k2, _⟩ := conj_app hc
  have hi : i < σ.length := by rw [hh.len]; exact (List.getElem?_eq_some_iff.mp h).1
  obtain ⟨o, ho⟩ : ∃ o, σ[i]? = some o := ⟨_, List.getElem?_eq_getElem hi⟩
  obtain ⟨p0, u0, ep0, np0, hp0, vs, eu, pr, z⟩ := hh.at_ i _ o h ho
  subst eu
  refine ⟨.ref p0, by rw [ho, ep0], r s F H σ hh sm k1 _ fun w F1 H1 g1 hh1 r1 => ?_⟩
  have hp1 : H1 p0 = some (.lst vs) := g1.keep p0 _ hp0 (by rw [msAt_nil]; exact fun q => q)
  obtain ⟨j, e1, e2⟩ := ix_at (d := d) k2
  obtain ⟨zv, e3, rz⟩ := paired_at pr e2
  exact ⟨p0, vs, g s, zv, rfl, by rw [show w = .int (g s) from r1], .inl (.inl hp1), by unfold atI; rw [pr.length, e1]; exact e3, q zv F1 H1 g1 hh1 (τ.mono g1.ff rz)⟩
end
end Dx

/-! Dx, part Z: dicts of ints, as rows of keys. -/
namespace L2
open PySem PySem.Spec PyProof PyProof.Rows
/-- what e gives is locked from here on -/
def tPerm (t : TE) : TE := fun σ H Q => t σ H fun v H1 => ∃ d u, v = .ref d ∧ H1 d = some u ∧ Mut (some u) ∧ ∀ od, Q v (upd H1 d (.frz od u))
theorem pe_perm {X : Cx} {e : Expr} {t : TE} (h : PE X e t) : PE X e (tPerm t) := by
  refine ⟨fun pins s σ H Q I q => ?_⟩
  refine thn (h.run pins s σ H _ I q) fun u s1 ⟨x, H1, I1, rx, d, w, ex, hd, mu, q1⟩ => ?_
  obtain ⟨od, I2⟩ := I1.lock hd mu
  exact ⟨x, _, I2, rx, q1 od⟩
end L2
namespace Dx
open PySem PySem.Spec PyProof PyProof.Rows L2
def KeysOf (kvs : List (Key × V)) (ks : List Int) : Prop := kvs.map (·.1) = ks.map Sum.inl
def insK (ks : List Int) (k : Int) : List Int := if k ∈ ks then ks else ks ++ [k]
theorem keys_any {kvs : List (Key × V)} {ks : List Int} (h : KeysOf kvs ks) (k : Int) : (kvs.any fun kv => decide (kv.1 = (.inl k : Key))) = decide (k ∈ ks) := by
  have e : (kvs.any fun kv => decide (kv.1 = (.inl k : Key))) = (kvs.map (·.1)).any fun q => decide (q = (.inl k : Key)) := by rw [List.any_map]; rfl
  rw [e, h, List.any_map]
  rw [Bool.eq_iff_iff]
  simp
theorem keys_put {kvs : List (Key × V)} {ks : List Int} {v : V} (h : KeysOf kvs ks) (k : Int) : KeysOf (putK kvs (.inl k) v) (insK ks k) := by
  unfold putK insK
  rw [keys_any h]
  by_cases m : k ∈ ks
  · rw [if_pos (decide_eq_true m), if_pos m]
    unfold KeysOf
    rw [List.map_map, ← h]
    apply List.map_congr_left
    intro q _
    show (if q.1 = .inl k then (q.1, v) else q).1 = q.1
    split <;> rfl
  · rw [if_neg (by rw [decide_eq_false m]; exact Bool.false_ne_true), if_neg m]
    unfold KeysOf
    rw [List.map_append, List.map_append, h]
    rfl
section
variable {K : PySem.W.Frag}
abbrev tDicU (K : PySem.W.Frag) : Ty K := ⟨List Int, fun F v ks => ∃ a kvs, v = .ref a ∧ F a = some (.dK kvs) ∧ KeysOf kvs ks, fun h ⟨a, kvs, e1, e2, e3⟩ => ⟨a, kvs, e1, h _ _ e2, e3⟩⟩
/-- a dict that stays as it is -/
abbrev tDic (K : PySem.W.Frag) : Ty K := ⟨List Int, fun F v ks => ∃ a o kvs, v = .ref a ∧ F a = some (.frz o (.dK kvs)) ∧ KeysOf kvs ks ∧ ks.length ≤ sizeLine, fun h ⟨a, o, kvs, e1, e2, e3⟩ => ⟨a, o, kvs, e1, h _ _ e2, e3⟩⟩
/-- a dict of one's own -/
abbrev oDic (K : PySem.W.Frag) : OTy K where
  τ := tDicU K
  own := fun _ u ks => ∃ kvs, u = .dK kvs ∧ KeysOf kvs ks ∧ ks.length ≤ sizeLine
  mono := fun _ h => h
  frz := fun ⟨kvs, e, h, _⟩ hf => ⟨_, kvs, rfl, e ▸ hf, h⟩
  obj := fun ⟨kvs, e, _⟩ xs z => by rw [e] at z; cases z
theorem keys_len {kvs : List (Key × V)} {ks : List Int} (h : KeysOf kvs ks) : kvs.length = ks.length := by
  have := congrArg List.length h
  simpa using this
theorem walks_keys {F0 : Hp} {d : Addr} {o : Obj} {kvs : List (Key × V)} {ks : List Int} (h : F0 d = some (.frz o (.dK kvs))) (hk : KeysOf kvs ks) (z : ks.length ≤ sizeLine) : Walks K (Itk d o kvs) F0 (tInt K) ks where
  go := fun i x F H s1 s2 e => by
    obtain ⟨hi, ex⟩ := List.getElem?_eq_some_iff.mp e
    have hd := s2 _ _ (s1 _ _ h)
    refine ⟨⟨hd, by rw [keys_len hk]; exact hi⟩, fun v H' ⟨eH, k, w, h3, ev⟩ => ?_⟩
    subst eH
    have h4 : (kvs.map (·.1))[i]? = some k := by rw [List.getElem?_map, h3]; rfl
    rw [hk, List.getElem?_map, e] at h4
    have h5 : (.inl x : Key) = k := Option.some.inj h4
    exact ⟨F, Gr.refl s2, by rw [ev, ← h5]; rfl⟩
  stop := fun i F H s1 s2 e => ⟨s2 _ _ (s1 _ _ h), by rw [keys_len hk]; exact e⟩
  len := z
end
section
variable {K : PySem.W.Frag} {X : Cx} {S : Type} {Δ Δ1 Δ2 : Ctx K S} {e a b tg : Expr} {pos px p2 : Pos} {τ : Ty K} {ms m1 m2 mus : List Nat} {cs c1 c2 : List (S → Prop)} {ta tb : TE} {i : Nat} {x : Str} {k : Nat}
/-- {} -/
theorem DO.dic0 : DO K X Δ (.Dict [] [] pos) (oDic K) [] [] Δ (fun _ => []) tDNewK := by
  refine ⟨Diff.refl, pe_dnewK, fun s F H σ hh sm hc Q q p n => ?_⟩
  have o : (oDic K).own F (.dK []) [] := ⟨[], rfl, rfl, Nat.zero_le _⟩
  obtain ⟨g2, fn, e3⟩ := own_of_new (ω := oDic K) (x := []) sm n o
  rw [msAt_nil] at q
  exact q p _ F _ g2 (hh.grow g2) n fn e3 o
/-- a new dict, from here on as it is -/
theorem DX.ofD {f : S → List Int} (h : DO K X Δ e (oDic K) ms cs Δ1 f ta) : DX K X Δ e (tDic K) ms cs Δ1 f (tPerm ta) := by
  obtain ⟨d1, p, r⟩ := h
  refine ⟨d1, pe_perm p, fun s F H σ hh sm hc Q q => r s F H σ hh sm hc _ fun p u F1 H1 g1 hh1 n1 n2 e1 ⟨kvs, eu, hk, hz⟩ => ?_⟩
  subst eu
  refine ⟨p, _, rfl, e1, trivial, fun od => ?_⟩
  have sm2 : Same F1 (upd F1 p (.frz od (.dK kvs))) := same_new n2
  have notOwn : ∀ (j : Nat) (ω : OTy K) (f' : S → ω.τ.α), Δ1[j]? = some (.ow ω f') → σ[j]? ≠ some (some (.ref p)) := fun j ω f' e2 e3 => (d1.was hh e2 e3).2 n1
  have g2 : Gr (MsAt ms σ) F H (upd F1 p (.frz od (.dK kvs))) (upd H1 p (.frz od (.dK kvs))) := by
    refine ⟨g1.ff.trans sm2, upd_mono g1.fh, fun c o z => ?_, fun c o z w => ?_, fun c z => ?_⟩
    · by_cases y : c = p
      · exact .inr (y ▸ n1)
      · rw [upd_ne y] at z
        exact g1.fresh c o z
    · have : c ≠ p := fun y => by rw [y, n1] at z; cases z
      rw [upd_ne this]
      exact g1.keep c o z w
    · by_cases y : c = p
      · exact y ▸ n1
      · rw [upd_ne y] at z
        exact g1.dom c z
  refine q (.ref p) _ _ g2 ?_ ⟨p, od, kvs, rfl, upd_same, hk, hz⟩
  refine ⟨hh1.len, fun j sl o e2 e3 => ?_, hh1.sep⟩
  have w := hh1.at_ j sl o e2 e3
  cases sl with
  | dead => trivial
  | fz τ f =>
    obtain ⟨v, ev, rv⟩ := w
    exact ⟨v, ev, τ.mono sm2 rv⟩
  | ow ω f' =>
    obtain ⟨p', u', ep, np, hp, ow⟩ := w
    have : p' ≠ p := fun y => notOwn j ω f' e2 (by rw [e3, ep, y])
    exact ⟨p', u', ep, by rw [upd_ne this]; exact np, by rw [upd_ne this]; exact hp, ω.mono sm2 ow⟩
theorem dget_rd {H : Hp} {d : Addr} {o : Obj} {kvs : List (Key × V)} {ks : List Int} (hd : H d = some (.frz o (.dK kvs))) (hk : KeysOf kvs ks) (n : Int) : ∃ r, DGet H d (.int n) r ∧ r.isSome = decide (n ∈ ks) :=
  ⟨valV kvs (.inl n), .inl ⟨kvs, .inl n, .inr ⟨o, hd⟩, rfl, rfl⟩, by rw [← valV_any, keys_any hk]⟩
/-- k in d, k not in d -/
theorem DX.inD {f : S → Int} {g : S → List Int} (hr : Room k X.A) (ha : DX K X Δ a (tInt K) m1 c1 Δ1 f ta) (hb : DX K X Δ1 b (tDic K) m2 c2 Δ2 g tb) (hm : behindInMarks .In b = false := by with_unfolding_all rfl) : DX K X Δ (.Compare a [.In] [b] pos) (tBool K) (m1 ++ m2) (c1 ++ (c2 ++ [])) Δ2 (fun s => decide (f s ∈ g s)) (tDIn ta tb) := by
  obtain ⟨d1, p1, r1⟩ := ha
  obtain ⟨d2, p2, r2⟩ := hb
  refine ⟨d1.trans d2, pe_cmp (pc_din (by have := hr.un; omega) p1 p2) hm, fun s F H σ hh sm hc Q q => ?_⟩
  obtain ⟨k1, k2⟩ := conj_app hc
  obtain ⟨k2, _⟩ := conj_app k2
  refine r1 s F H σ hh sm k1 _ fun v F1 H1 g1 hh1 e1 => r2 s F1 H1 σ hh1 g1.fh k2 _ fun w F2 H2 g2 hh2 ⟨d, o, kvs, ew, hd, hk, _⟩ => ?_
  obtain ⟨r, hr1, hr2⟩ := dget_rd (g2.fh _ _ hd) hk (f s)
  refine ⟨d, r, ew, by rw [show v = .int (f s) from e1]; exact hr1, ?_⟩
  rw [hr2]
  exact q _ F2 H2 ((g1.mono (msAt_l (m2 := m2))).trans (g2.mono (msAt_r (m1 := m1)))) hh2 rfl
theorem DX.ninD {f : S → Int} {g : S → List Int} (hr : Room k X.A) (ha : DX K X Δ a (tInt K) m1 c1 Δ1 f ta) (hb : DX K X Δ1 b (tDic K) m2 c2 Δ2 g tb) (hm : behindInMarks .NotIn b = false := by with_unfolding_all rfl) : DX K X Δ (.Compare a [.NotIn] [b] pos) (tBool K) (m1 ++ m2) (c1 ++ (c2 ++ [])) Δ2 (fun s => !decide (f s ∈ g s)) (tDNotIn ta tb) := by
  obtain ⟨d1, p1, r1⟩ := ha
  obtain ⟨d2, p2, r2⟩ := hb
  refine ⟨d1.trans d2, pe_cmp (pc_dnotin (by have := hr.un; omega) p1 p2) hm, fun s F H σ hh sm hc Q q => ?_⟩
  obtain ⟨k1, k2⟩ := conj_app hc
  obtain ⟨k2, _⟩ := conj_app k2
  refine r1 s F H σ hh sm k1 _ fun v F1 H1 g1 hh1 e1 => r2 s F1 H1 σ hh1 g1.fh k2 _ fun w F2 H2 g2 hh2 ⟨d, o, kvs, ew, hd, hk, _⟩ => ?_
  obtain ⟨r, hr1, hr2⟩ := dget_rd (g2.fh _ _ hd) hk (f s)
  refine ⟨d, r, ew, by rw [show v = .int (f s) from e1]; exact hr1, ?_⟩
  rw [hr2]
  exact q _ F2 H2 ((g1.mono (msAt_l (m2 := m2))).trans (g2.mono (msAt_r (m1 := m1)))) hh2 rfl
theorem DT.inD {f : S → Int} {g : S → List Int} (hr : Room k X.A) (ha : DX K X Δ a (tInt K) m1 c1 Δ1 f ta) (hb : DX K X Δ1 b (tDic K) m2 c2 Δ2 g tb) (hm : behindInMarks .In b = false := by with_unfolding_all rfl) : DT K X Δ (.Compare a [.In] [b] pos) (m1 ++ m2) (c1 ++ (c2 ++ [])) Δ2 (fun s => decide (f s ∈ g s)) (tB (tDIn ta tb)) := by
  obtain ⟨d1, p1, r1⟩ := ha
  obtain ⟨d2, p2, r2⟩ := hb
  refine ⟨d1.trans d2, pt_cmp (pc_din (by have := hr.un; omega) p1 p2) hm, fun s F H σ hh sm hc Q q => ?_⟩
  obtain ⟨k1, k2⟩ := conj_app hc
  obtain ⟨k2, _⟩ := conj_app k2
  refine r1 s F H σ hh sm k1 _ fun v F1 H1 g1 hh1 e1 => r2 s F1 H1 σ hh1 g1.fh k2 _ fun w F2 H2 g2 hh2 ⟨d, o, kvs, ew, hd, hk, _⟩ => ?_
  obtain ⟨r, hr1, hr2⟩ := dget_rd (g2.fh _ _ hd) hk (f s)
  refine ⟨d, r, ew, by rw [show v = .int (f s) from e1]; exact hr1, ?_⟩
  rw [hr2]
  exact ⟨_, rfl, q F2 H2 ((g1.mono (msAt_l (m2 := m2))).trans (g2.mono (msAt_r (m1 := m1)))) hh2⟩
theorem DT.ninD {f : S → Int} {g : S → List Int} (hr : Room k X.A) (ha : DX K X Δ a (tInt K) m1 c1 Δ1 f ta) (hb : DX K X Δ1 b (tDic K) m2 c2 Δ2 g tb) (hm : behindInMarks .NotIn b = false := by with_unfolding_all rfl) : DT K X Δ (.Compare a [.NotIn] [b] pos) (m1 ++ m2) (c1 ++ (c2 ++ [])) Δ2 (fun s => !decide (f s ∈ g s)) (tB (tDNotIn ta tb)) := by
  obtain ⟨d1, p1, r1⟩ := ha
  obtain ⟨d2, p2, r2⟩ := hb
  refine ⟨d1.trans d2, pt_cmp (pc_dnotin (by have := hr.un; omega) p1 p2) hm, fun s F H σ hh sm hc Q q => ?_⟩
  obtain ⟨k1, k2⟩ := conj_app hc
  obtain ⟨k2, _⟩ := conj_app k2
  refine r1 s F H σ hh sm k1 _ fun v F1 H1 g1 hh1 e1 => r2 s F1 H1 σ hh1 g1.fh k2 _ fun w F2 H2 g2 hh2 ⟨d, o, kvs, ew, hd, hk, _⟩ => ?_
  obtain ⟨r, hr1, hr2⟩ := dget_rd (g2.fh _ _ hd) hk (f s)
  refine ⟨d, r, ew, by rw [show v = .int (f s) from e1]; exact hr1, ?_⟩
  rw [hr2]
  exact ⟨_, rfl, q F2 H2 ((g1.mono (msAt_l (m2 := m2))).trans (g2.mono (msAt_r (m1 := m1)))) hh2⟩
/-- for k in d -/
theorem DI.dic {f : S → List Int} (he : DX K X Δ e (tDic K) ms cs Δ1 f ta) : DI K X Δ tg e (tInt K) ms cs Δ1 f (iKeys ta) := by
  obtain ⟨d1, p, r⟩ := he
  refine ⟨d1, pi_keys p, fun s F H σ hh sm hc R q => r s F H σ hh sm hc _ fun v F1 H1 g1 hh1 ⟨d, o, kvs, ev, hd, hk, hz⟩ => ?_⟩
  exact ⟨d, o, ev, .inl ⟨kvs, g1.fh _ _ hd, q _ F1 H1 g1 hh1 (walks_keys hd hk hz)⟩⟩
/-- d[b] = e -/
theorem DS.dput {f : S → List Int} {fe : S → τ.α} {fi : S → Int} (hr : Room k X.A) (he : DX K X Δ e τ [] c1 Δ fe ta) (hb : DX K X Δ b (tInt K) [] c2 Δ fi tb) (h : Δ[i]? = some (.ow (oDic K) f)) (hN : X.N[i]? = some x := by rfl) (hv : Vis X.env.scope x := by first | exact Or.inl rfl | exact Or.inr (Or.inl rfl) | exact Or.inr (Or.inr rfl)) (hd : (x == ("__debug__" : Str)) = false := by decide)
    (hcd : (x == ("__classdict__" : Str)) = false := by decide) (hs : swapsWith e (some (.Subscript (.Name x px) b p2)) pos.line X.env = pure false := by rfl) :
    DS K X mus Δ (.Assign [.Subscript (.Name x px) b p2] e pos) (c1 ++ (c2 ++ [fun s => (f s).length < sizeLine])) (Δ.set i (.ow (oDic K) fun s => insK (f s) (fi s))) := by
  obtain ⟨d1, p, r⟩ := he
  obtain ⟨_, pb, rb⟩ := hb
  refine ⟨_, ps_dput (by have := hr.un; omega) (pe_var hN hv hd hcd) pb p hs, fun s F H σ hh sm hc D q => ?_⟩
  obtain ⟨k1, k2⟩ := conj_app hc
  obtain ⟨k2, k3, _⟩ := conj_app k2
  refine r s F H σ hh sm k1 _ fun v F1 H1 g1 hh1 r1 => ?_
  obtain ⟨pp, u1, f1, f2, f3, _⟩ := own_at hh1 h
  refine ⟨.ref pp, f1, rb s F1 H1 σ hh1 g1.fh k2 _ fun iv F2 H2 g2 hh2 r2 => ?_⟩
  obtain ⟨pp', u2, f1', f2', f3', kvs, eu, hk, hz⟩ := own_at hh2 h
  rw [f1] at f1'; cases f1'
  subst eu
  have hl : kvs.length < sizeLine := by rw [keys_len hk]; exact k3
  refine ⟨pp, _, rfl, .inl ⟨kvs, .inl (fi s), f3', by rw [show iv = .int (fi s) from r2]; rfl, hl, rfl⟩, ?_⟩
  rw [msAt_nil] at g1 g2
  have gs : GrS mus Δ σ Δ σ F H F1 H1 := gs0 (ms := []) trivial Diff.refl hh (by rw [msAt_nil]; exact g1)
  have gs2 : GrS mus Δ σ Δ σ F1 H1 F2 H2 := gs0 (ms := []) trivial Diff.refl hh1 (by rw [msAt_nil]; exact g2)
  have gs3 : GrS mus Δ σ (Δ.set i (.ow (oDic K) fun s => insK (f s) (fi s))) σ F2 H2 F2 (upd H2 pp (.dK (putK kvs (.inl (fi s)) v))) := gs0 (ms := [i]) ⟨⟨_, _, h⟩, trivial⟩ (diff_mut h) hh2 (gr_mut g2.fh f2' (by rw [f3']; exact fun z => nomatch z) f1)
  refine q σ F2 _ ((gs.trans gs2).trans gs3) (hh2.mut h f1 ⟨_, rfl, keys_put hk _, ?_⟩)
  unfold insK
  split
  · exact hz
  · rw [List.length_append, List.length_singleton]
    exact k3
end
end Dx

/-! Dx, part a: dict comprehensions, ranges with a step. -/
namespace Dx
open PySem PySem.Spec PyProof PyProof.Rows L2
/-- the keys of {k: v for ..} -/
def dcV {α : Type} (xs : List α) (t : α → Bool) (f : α → Int) : List Int := ((xs.filter t).map f).foldl insK []
theorem insK_len (ks : List Int) (k : Int) : (insK ks k).length ≤ ks.length + 1 := by
  unfold insK
  split
  · exact Nat.le_succ _
  · simp
theorem dcV_len {α : Type} (xs : List α) (t : α → Bool) (f : α → Int) : (dcV xs t f).length ≤ xs.length := by
  have h : ∀ (ys : List Int) (ks : List Int), (ys.foldl insK ks).length ≤ ks.length + ys.length := by
    intro ys
    induction ys with
    | nil => intro ks; exact Nat.le_refl _
    | cons y ys ih =>
      intro ks
      have h1 := ih (insK ks y)
      have h2 := insK_len ks y
      rw [List.length_cons]
      show (ys.foldl insK (insK ks y)).length ≤ _
      omega
  have h1 := h ((xs.filter t).map f) []
  rw [List.length_map, List.length_nil] at h1
  have h2 := List.length_filter_le t xs
  unfold dcV
  omega
section
variable {K : PySem.W.Frag} {X : Cx} {S R : Type} {Δ Δ1 Δ2 : Ctx K S} {st : Stmt} {e a b c tg iter kx vx : Expr} {es ifs : List Expr} {pos p' apos : Pos} {τ τe τ1 τ2 L : Ty K} {ω ω1 ω2 : OTy K} {mus ms m1 m2 m3 is vs : List Nat} {c1 c2 c3 cs : List (S → Prop)} {ta tb tc tk te : TE} {tt tx : TT} {tl : TA} {i j : Nat} {x y : Str}
/-- the reading of a dict comprehension -/
theorem dc_sem {Δb : Ctx K (S × τ.α)} {fx : S → List τ.α} {wi : TI} {g : TG} {ct ck ce : List (S × τ.α → Prop)} {ft : S × τ.α → Bool} {fk : S × τ.α → Int} {fe : S × τ.α → τe.α}
    (ri : ∀ s F H σ, Holds Δ s F H σ → Same F H → Conj c1 s → ∀ R : It → Hp → Prop, (∀ J F' H', Gr (MsAt ms σ) F H F' H' → Holds Δ1 s F' H' σ → Walks K J F' τ (fx s) → R J H') → wi σ H R)
    (lg : Δb.length = (Ctx.comap (T := S × τ.α) Prod.fst (killL Δ1 vs)).length) (rg : ∀ (s : S × τ.α) F H σ v, Holds (Ctx.comap (T := S × τ.α) Prod.fst (killL Δ1 vs)) s F H σ → Same F H → τ.rep F v s.2 → ∀ Q : L2.St → Hp → Prop, (∀ σ1, Holds Δb s F H σ1 → (∀ a, Own Δb σ1 a → Own (Ctx.comap (T := S × τ.α) Prod.fst (killL Δ1 vs)) σ a) → (∀ k, k ∉ is → σ1[k]? = σ[k]?) → Q σ1 H) → g v σ H Q)
    (rt : ∀ s F H σ, Holds Δb s F H σ → Same F H → Conj ct s → ∀ Q : Bool → Hp → Prop, (∀ F' H', Gr No F H F' H' → Q (ft s) H') → tt σ H Q)
    (rk : ∀ s F H σ, Holds Δb s F H σ → Same F H → Conj ck s → ∀ Q : VK, (∀ v F' H', Gr (MsAt [] σ) F H F' H' → Holds Δb s F' H' σ → (tInt K).rep F' v (fk s) → Q v H') → tk σ H Q)
    (re : ∀ s F H σ, Holds Δb s F H σ → Same F H → Conj ce s → ∀ Q : VK, (∀ v F' H', Gr (MsAt [] σ) F H F' H' → Holds Δb s F' H' σ → τe.rep F' v (fe s) → Q v H') → te σ H Q)
    (his : ∀ j ∈ is, j ∈ vs) :
    ∀ s F H σ, Holds Δ s F H σ → Same F H → Conj (c1 ++ [fun s => ∀ x ∈ fx s, Conj ct (s, x) ∧ (ft (s, x) = true → Conj ck (s, x) ∧ Conj ce (s, x))]) s → ∀ Q : VK, (∀ p u F' H', Gr (MsAt ms σ) F H F' H' → Holds Δ1 s F' H' σ → H p = none → F' p = none → H' p = some u → (oDic K).own F' u (dcV (fx s) (fun x => ft (s, x)) (fun x => fk (s, x))) → Q (.ref p) H') → tDc wi g tt tk te vs σ H Q := by
  intro s F H σ hh sm hcs Q q
  obtain ⟨k1, k2, _⟩ := conj_app hcs
  refine ri s F H σ hh sm k1 _ fun J F1 H1 g1 hh1 wk D hD => ?_
  have nD : F1 D = none := g1.fh.free hD
  refine ⟨fun i k H' => ∃ F' kvs, k = (fx s).length - i ∧ i ≤ (fx s).length ∧ Gr (fun a => a = D) F1 (upd H1 D (.dK [])) F' H' ∧ F' D = none ∧ H' D = some (.dK kvs) ∧ KeysOf kvs (dcV ((fx s).take i) (fun x => ft (s, x)) (fun x => fk (s, x))) ∧ Same F1 F',
    ⟨_, F1, [], rfl, Nat.zero_le _, Gr.refl (fun a o z => by rw [upd_ne (ne_of_none z nD)]; exact g1.fh a o z), nD, upd_same, by rw [List.take_zero]; rfl, Same.refl F1⟩, ?_⟩
  rintro i k H' ⟨F', acc, rfl, hi, g', n', e', pr, sf⟩
  have back : Gr No F1 H1 F' H' := gr_mk (fun a o z => g'.keep a o (by rw [upd_ne (ne_of_none z hD)]; exact z) fun w => by subst w; rw [hD] at z; cases z) g'.ff g'.fh fun a o z => by
    rcases g'.fresh a o z with w | w
    · exact .inl w
    · by_cases y : a = D
      · subst y; exact .inr hD
      · rw [upd_ne y] at w; exact .inr w
  have lt : ∀ n, (dcV ((fx s).take n) (fun x => ft (s, x)) (fun x => fk (s, x))).length ≤ min n (fx s).length := fun n => by
    refine Nat.le_trans (dcV_len _ _ _) ?_
    rw [List.length_take]
    exact Nat.le_refl _
  by_cases hlt : i < (fx s).length
  · refine .inr ?_
    have ex : (fx s)[i]? = some (fx s)[i] := List.getElem?_eq_getElem hlt
    obtain ⟨w1, w2⟩ := wk.go i _ F' H' sf g'.fh ex
    have kx := k2 _ (List.getElem_mem hlt)
    refine ⟨w1, fun H2 => ∃ F2 acc2, Gr (fun a => a = D) F1 (upd H1 D (.dK [])) F2 H2 ∧ F2 D = none ∧ H2 D = some (.dK acc2) ∧ KeysOf acc2 (dcV ((fx s).take (i + 1)) (fun x => ft (s, x)) (fun x => fk (s, x))) ∧ Same F1 F2, fun H2 ⟨F2, acc2, y1, y2, y3, y4, y5⟩ => ⟨_, by omega, F2, acc2, rfl, hlt, y1, y2, y3, y4, y5⟩, fun v H2 hy => ?_⟩
    obtain ⟨F2, g2, rv⟩ := w2 v H2 hy
    have hhk : Holds (Ctx.comap (T := S × τ.α) Prod.fst (killL Δ1 vs)) (s, (fx s)[i]) F2 H2 (wipe σ vs) := comap_holds (kill_holds ((hh1.grow back).grow g2))
    refine rg (s, (fx s)[i]) F2 H2 (wipe σ vs) v hhk g2.fh rv _ fun σ3 hh3 ow3 nx3 => ⟨?_, ?_⟩
    · apply List.ext_getElem?
      intro j
      by_cases hj : j ∈ vs
      · have : ∀ {σ : L2.St} {ws : List Nat}, j ∈ ws → (wipe σ ws)[j]? = if j < σ.length then some none else none := by
          intro σ ws
          induction ws with
          | nil => intro h; cases h
          | cons w ws ih =>
            intro h
            unfold wipe
            by_cases hw : w = j
            · subst hw
              rw [List.getElem?_set, if_pos rfl, wipe_length]
            · rw [List.getElem?_set_ne hw]
              exact ih ((List.mem_cons.mp h).resolve_left fun z => hw z.symm)
        rw [this hj, this hj]
        have l3 : σ3.length = (wipe σ vs).length := by rw [hh3.len, hhk.len]; exact lg
        rw [l3, wipe_length]
      · rw [wipe_out hj, wipe_out hj, nx3 j fun z => hj (his j z), wipe_out hj]
    · refine rt _ F2 H2 σ3 hh3 g2.fh kx.1 _ fun F3 H3 g3 => ?_
      have ek : (fx s).take (i + 1) = (fx s).take i ++ [(fx s)[i]] := by rw [List.take_add_one, ex]; rfl
      have gD : Gr (fun a => a = D) F1 (upd H1 D (.dK [])) F3 H3 := g'.trans ((g2.trans g3).of0)
      have stay : ∀ {Fa Ha Fb Hb : Hp}, Gr No Fa Ha Fb Hb → Fa D = none → Ha D = some (.dK acc) → Fb D = none ∧ Hb D = some (.dK acc) := fun {Fa Ha Fb Hb} g n h => by
        refine ⟨?_, g.same _ _ h⟩
        cases z : Fb D with
        | none => rfl
        | some o =>
          rcases g.fresh D o z with w | w
          · rw [n] at w; cases w
          · rw [h] at w; cases w
      obtain ⟨n3, e3⟩ := stay (g2.trans g3) n' e'
      cases et : ft (s, (fx s)[i]) with
      | false =>
        show ∃ F2 acc2, _
        refine ⟨F3, acc, gD, n3, e3, ?_, sf.trans (g2.trans g3).ff⟩
        rw [ek]
        unfold dcV
        rw [List.filter_append, List.map_append, show List.filter (fun x => ft (s, x)) [(fx s)[i]] = [] by simp [et]]
        simp only [List.map_nil, List.append_nil]
        exact pr
      | true =>
        show tk σ3 H3 _
        refine rk _ F3 H3 σ3 (hh3.grow g3) g3.fh (kx.2 et).1 _ fun kv F4 H4 g4 hh4 r4 => ?_
        rw [msAt_nil] at g4
        refine re _ F4 H4 σ3 hh4 g4.fh (kx.2 et).2 _ fun w F5 H5 g5 hh5 r5 => ?_
        rw [msAt_nil] at g5
        obtain ⟨n4, e4⟩ := stay (g4.trans g5) n3 e3
        have ll : acc.length < sizeLine := by
          rw [keys_len pr]
          have := lt i
          have := wk.len
          omega
        refine ⟨acc, .inl (fk (s, (fx s)[i])), by rw [show kv = .int _ from r4]; rfl, e4, ll, F5, putK acc (.inl (fk (s, (fx s)[i]))) w, ?_, n4, upd_same, ?_, sf.trans ((g2.trans g3).trans (g4.trans g5)).ff⟩
        · have g6 := gD.trans ((g4.trans g5).of0 (B := fun a => a = D))
          refine g6.trans ⟨Same.refl F5, fun a o z => by rw [upd_ne (ne_of_none z n4)]; exact (g4.trans g5).fh a o z, fun a o z => .inl z, fun a o z nz => by rw [upd_ne nz]; exact z, fun a z => ?_⟩
          by_cases y : a = D
          · subst y; rw [upd_same] at z; cases z
          · rw [upd_ne y] at z; exact z
        · rw [ek]
          unfold dcV
          rw [List.filter_append, List.map_append, show List.filter (fun x => ft (s, x)) [(fx s)[i]] = [(fx s)[i]] by simp [et], List.foldl_append]
          exact keys_put pr _
  · refine .inl ⟨wk.stop i F' H' sf g'.fh (by omega), ?_⟩
    have ed : (fx s).take i = fx s := List.take_of_length_le (by omega)
    rw [ed] at pr
    refine q D (.dK acc) F' H' (g1.trans back.of0) (hh1.grow back) (g1.dom D hD) n' e' ⟨acc, rfl, pr, ?_⟩
    have := lt (fx s).length
    rw [List.take_length] at this
    have := wk.len
    omega
/-- {kx: vx for tg in iter if ..} without effects -/
theorem DO.dc {scope : Scope} {own : List (Str × Nat)} {Δb : Ctx K (S × τ.α)} {fx : S → List τ.α} {wi : TI} {g : TG} {ct ck ce : List (S × τ.α → Prop)} {ft : S × τ.α → Bool} {fk : S × τ.α → Int} {fe : S × τ.α → τe.α} (hN : X.N.Nodup) (hi : DI K X Δ tg iter τ ms c1 Δ1 fx wi) (ok : BlkOk X.N X.env.scope scope own)
    (hg : ∀ (s : Shared) (H : Hp) (C : Addr) (cl : List (Str × Addr)) (fp : List Addr), DG K (X.blk s H scope (compEnvC scope cl C X.env) fp) (Ctx.comap (T := S × τ.α) Prod.fst (killL Δ1 (own.map (·.2)))) tg τ Prod.snd is Δb g)
    (ht : ∀ (s : Shared) (H : Hp) (C : Addr) (cl : List (Str × Addr)) (fp : List Addr), DTs' K (X.blk s H scope (compEnvC scope cl C X.env) fp) Δb ifs ct ft tt)
    (hk : ∀ (s : Shared) (H : Hp) (C : Addr) (cl : List (Str × Addr)) (fp : List Addr), DX K (X.blk s H scope (compEnvC scope cl C X.env) fp) Δb kx (tInt K) [] ck Δb fk tk)
    (he : ∀ (s : Shared) (H : Hp) (C : Addr) (cl : List (Str × Addr)) (fp : List Addr), DX K (X.blk s H scope (compEnvC scope cl C X.env) fp) Δb vx τe [] ce Δb fe te) (his : ∀ j ∈ is, j ∈ own.map (·.2)) (hc : X.calm = true := by rfl) (hs : ∀ x, foldedSetIterable iter X.env x = pure x := by intro _; rfl) :
    DO K X Δ (.DictComp kx vx [⟨tg, iter, ifs, 0⟩] scope pos) (oDic K) ms (c1 ++ [fun s => ∀ x ∈ fx s, Conj ct (s, x) ∧ (ft (s, x) = true → Conj ck (s, x) ∧ Conj ce (s, x))]) Δ1 (fun s => dcV (fx s) (fun x => ft (s, x)) (fun x => fk (s, x))) (tDc wi g tt tk te (own.map (·.2))) :=
  ⟨hi.1, pe_dc hc hN hi.2.1 ok (fun s H C cl fp => (hg s H C cl fp).2.1) (fun s H C cl fp => (ht s H C cl fp).1) (fun s H C cl fp => (hk s H C cl fp).2.1) (fun s H C cl fp => (he s H C cl fp).2.1) hs, by
    have s0 : Shared := {}
    exact dc_sem (is := is) hi.2.2 (hg s0 (fun _ => none) 0 [] []).1 (hg s0 (fun _ => none) 0 [] []).2.2 (ht s0 (fun _ => none) 0 [] []).2 (hk s0 (fun _ => none) 0 [] []).2.2 (he s0 (fun _ => none) 0 [] []).2.2 his⟩
/-! ### range with a step -/
def rangeL3 (lo hi c : Int) : List Int := (List.range (Builtin.Range.rangeSize lo hi c).toNat).map fun (i : Nat) => lo + (i : Int) * c
def RgOk3 (lo hi c : Int) : Prop := c ≠ 0 ∧ c.natAbs < 1073741824 ∧ Builtin.Range.small lo hi c = true ∧ 0 ≤ Builtin.Range.rangeSize lo hi c ∧ Builtin.Range.rangeSize lo hi c ≤ sizeLine
theorem walks_range3 {F0 : Hp} {lo c : Int} {n : Nat} (z : n ≤ sizeLine) : Walks K (Itc lo c n) F0 (tInt K) ((List.range n).map fun (i : Nat) => lo + (i : Int) * c) where
  go := fun i x F H s1 s2 e => by
    rw [List.getElem?_map] at e
    obtain ⟨j, e1, e2⟩ := Option.map_eq_some_iff.mp e
    have hl := (List.getElem?_eq_some_iff.mp e1).1
    rw [List.length_range] at hl
    rw [List.getElem?_range hl] at e1
    cases e1
    exact ⟨hl, fun v H' ⟨e3, e4⟩ => by
      subst e3
      exact ⟨F, Gr.refl s2, by rw [e4, ← e2]⟩⟩
  stop := fun i F H s1 s2 e => by
    rw [List.length_map, List.length_range] at e
    exact e
  len := by rw [List.length_map, List.length_range]; exact z
theorem DI.range3 {f g h : S → Int} {px : Pos} {Δ3 : Ctx K S} (hm : X.mg "range" = none) (he : DX K X Δ a (tInt K) m1 c1 Δ1 f ta) (hb : DX K X Δ1 b (tInt K) m2 c2 Δ2 g tb) (hd : DX K X Δ2 c (tInt K) m3 c3 Δ3 h tc) (hg : Gl X "range" := by rfl)
    (hs : starEach [a, b, c] X.env = (false, eval a X.env) :: starEach [b, c] X.env := by rfl) (hs2 : starEach [b, c] X.env = (false, eval b X.env) :: starEach [c] X.env := by rfl) (hs3 : starEach [c] X.env = (false, eval c X.env) :: starEach [] X.env := by rfl) (hpl : (backTo pos (starEach [b, c] X.env)).any (·.1) = false := by rfl) :
    DI K X Δ tg (.Call (.Name "range" px) [a, b, c] [] pos) (tInt K) (m1 ++ (m2 ++ m3)) (c1 ++ (c2 ++ (c3 ++ [fun s => RgOk3 (f s) (g s) (h s)]))) Δ3 (fun s => rangeL3 (f s) (g s) (h s)) (iRng3 (tCons ta (tCons tb (tCons tc tNil)))) := by
  obtain ⟨d1, p, r⟩ := he
  obtain ⟨d2, p2, r2⟩ := hb
  obtain ⟨d3, p3, r3⟩ := hd
  refine ⟨d1.trans (d2.trans d3), pi_range3 hg hm (pa_cons p (pa_cons p2 (pa_cons p3 pa_nil hs3) hs2) hs) hs hpl, fun s F H σ hh sm hc R q => ?_⟩
  obtain ⟨k1, k2⟩ := conj_app hc
  obtain ⟨k2, k3⟩ := conj_app k2
  obtain ⟨k3, ⟨k4, k5, k6, k7, k8⟩, _⟩ := conj_app k3
  refine r s F H σ hh sm k1 _ fun v F1 H1 g1 hh1 e1 => r2 s F1 H1 σ hh1 g1.fh k2 _ fun w F2 H2 g2 hh2 e2 => r3 s F2 H2 σ hh2 g2.fh k3 _ fun u F3 H3 g3 hh3 e3 => ?_
  refine ⟨f s, g s, h s, (Builtin.Range.rangeSize (f s) (g s) (h s)).toNat, by rw [show v = .int (f s) from e1, show w = .int (g s) from e2, show u = .int (h s) from e3], ⟨k4, k5, k6, by omega⟩, q _ F3 H3 (((g1.mono (msAt_l (m2 := m2 ++ m3)))).trans (((g2.mono (msAt_l (m2 := m3))).trans (g3.mono (msAt_r (m1 := m2)))).mono (msAt_r (m1 := m1)))) hh3 ?_⟩
  exact walks_range3 (by omega)
end
theorem range2_eq (k : Nat) (hk : k ≤ 100000) : RgOk3 0 (2 * (k : Int)) 2 ∧ rangeL3 0 (2 * (k : Int)) 2 = (List.range k).map fun (i : Nat) => 2 * (i : Int) := by
  have e : Builtin.Range.rangeSize 0 (2 * (k : Int)) 2 = (k : Int) := by
    unfold Builtin.Range.rangeSize
    rw [if_pos (by decide)]
    split <;> omega
  refine ⟨⟨by decide, by decide, ?_, by omega, ?_⟩, ?_⟩
  · have fit : ∀ i : Int, -(2 ^ 63) ≤ i → i < 2 ^ 63 → Builtin.Range.rangeFitsLong i = true := fun i h1 h2 => by
      unfold Builtin.Range.rangeFitsLong
      rw [decide_eq_true h1, decide_eq_true h2]
      rfl
    unfold Builtin.Range.small
    rw [e, if_pos (by decide), fit 0 (by decide) (by decide), fit (2 * (k : Int)) (by omega) (by omega), fit 2 (by decide) (by decide), fit (k : Int) (by omega) (by omega), fit (2 * (k : Int) + (2 - 1)) (by omega) (by omega), Bool.or_true]
    rfl
  · rw [e]
    have : (100000 : Int) ≤ sizeLine := Int.ofNat_le.mpr (show 100000 ≤ sizeLine by decide)
    omega
  · unfold rangeL3
    rw [e, Int.toNat_natCast]
    apply List.map_congr_left
    intro i _
    omega
end Dx

/-! Dx, part b: text times number, x += text, repr of data of any kind. -/
namespace Dx
open PySem PySem.Spec PyProof PyProof.Rows L2
/-- text * n -/
def repS (x : Str) (n : Int) : Str := if n < 1 then Str.empty else if (n == 1 || x.length == 0) = true then x else ⟨(List.replicate n.toNat x.cps).foldl (· ++ ·) #[]⟩
def RepS (x : Str) (n : Int) : Prop := -1000000 ≤ n ∧ n ≤ 1000000 ∧ x.length * n.toNat ≤ 1000000
theorem repl_fold (a : Array Nat) : ∀ (n : Nat) (b : Array Nat), ((List.replicate n a).foldl (· ++ ·) b).toList = b.toList ++ (List.replicate n a.toList).flatten
  | 0, b => by simp
  | n + 1, b => by
    rw [List.replicate_succ, List.foldl_cons, repl_fold a n, List.replicate_succ, List.flatten_cons, Array.toList_append, List.append_assoc]
theorem ok_repS {x : Str} {n : Int} (h : PyData.strOk x = true) : PyData.strOk (repS x n) = true := by
  unfold repS
  split
  · exact ok_empty
  · split
    · exact h
    · rw [ok_iff] at *
      intro c hc
      have hc' : c ∈ ((List.replicate n.toNat x.cps).foldl (· ++ ·) (#[] : Array Nat)).toList := hc
      rw [repl_fold] at hc'
      rcases List.mem_append.mp hc' with y | y
      · cases y
      · obtain ⟨l, hl, hm⟩ := List.mem_flatten.mp y
        rw [(List.mem_replicate.mp hl).2] at hm
        exact h c hm
theorem repS_len {x : Str} {n : Int} : (repS x n).length ≤ x.length * n.toNat := by
  unfold repS
  split
  · exact Nat.zero_le _
  · rename_i h
    split
    · have : 1 ≤ n.toNat := by omega
      exact Nat.le_mul_of_pos_right _ this
    · show ((List.replicate n.toNat x.cps).foldl (· ++ ·) (#[] : Array Nat)).size ≤ _
      rw [← Array.length_toList, repl_fold]
      simp only [List.nil_append, List.length_append, List.length_flatten, List.map_replicate, List.sum_replicate_nat, Array.toList_empty, List.length_nil, Nat.zero_add]
      show n.toNat * x.cps.size ≤ x.cps.size * n.toNat
      rw [Nat.mul_comm]
      exact Nat.le_refl _
/-! ### enumerate(text) -/
def Itse (x : Str) : It :=
  ⟨fun i _ => i < x.cps.size, fun i H v H' => ∃ T c, v = .ref T ∧ H T = none ∧ H' = upd H T (.tup [.int (i : Nat), .str ⟨#[c]⟩]) ∧ x.cps[i]? = some c, fun i _ => x.cps.size ≤ i⟩
theorem draws_text {prog : Program} {w : World} {A : Around} (hh : A.handled = none) (it : Addr) (x : Str) (t : Tok) (ty : String) (hty : ty = "str_ascii_iterator" ∨ ty = "str_iterator") :
    Draws prog w A it [it] x.cps.size (fun i v => ∃ c u, x.cps[i]? = some c ∧ v = .str ⟨#[c]⟩ u) (fun i h => h.IsStrIter it ty x t i) := by
  rcases hty with rfl | rfl
  · exact Draws.strAscii hh it x t
  · exact Draws.strWide hh it x t
theorem turn_enumT {P : Program} {w : World} {K : PySem.W.Frag} {elts : List Expr} {kk : Nat} {tpos : Pos} (e it : Addr) (x : Str) (t : Tok) (ty : String) (hty : ty = "str_ascii_iterator" ∨ ty = "str_iterator") :
    Turn P w K (.Tuple elts kk tpos) (Itse x) [e, it] e (fun i h => (∃ old, IsEnum h e it ((i : Nat) : Int) old) ∧ h.IsStrIter it ty x t i ∧ e ≠ it ∧ i ≤ x.cps.size) where
  mem := by simp
  obj := fun i h st b hb => by
    obtain ⟨⟨old, he⟩, ⟨o, ho, hc, hd⟩, _, _⟩ := st
    have e' : b = e ∨ b = it := by simpa using hb
    rcases e' with z | z
    · rw [z]; exact ⟨_, he, fun v q => nomatch q⟩
    · rw [z]; exact ⟨o, ho, fun v q => by rw [hd] at q; cases q⟩
  keep := fun i h h' st k => let ⟨⟨old, he⟩, ⟨o, ho, r⟩, hne, hle⟩ := st; ⟨⟨old, k e (by simp) _ he⟩, ⟨o, k it (by simp) _ ho, r⟩, hne, hle⟩
  item := by
    intro X hP hw hK hc i pins s σ H E I hf st hg
    subst hP hw hK
    obtain ⟨⟨old, he⟩, hit, hne, hle⟩ := st
    have hel : e < s.heap.objs.size := Heap.lt_size he
    have hil : it < s.heap.objs.size := by obtain ⟨_, q, _⟩ := hit; exact Heap.lt_size q
    refine wpAny_pyNext_enum_itemD (draws_text (A := X.A.in1) (I.ok.hd hc) it x t ty hty) he hit hg hne (by simpa using hne) fun u h' tk hP ho hit' hT hsz hk => ?_
    obtain ⟨c, tu, hx, rfl⟩ := hP
    refine ⟨_, rfl, wpAny_letOwnedTupleGo_enum (s := { s with heap := h', toks := tk + 1 }) ho fun h'' he' sb => ?_⟩
    have hT2 : h''.get? s.heap.objs.size = some { cls := .type "tuple", data := .seq #[.int i tk, .str ⟨#[c]⟩ tu] } := (sb.2 _ (Nat.ne_of_gt hel)).trans hT
    have new : ObjOk X.prog X.w (upd H s.heap.objs.size (.tup [.int (i : Nat), .str ⟨#[c]⟩])) h'' s.heap.objs.size (.tup [.int (i : Nat), .str ⟨#[c]⟩]) :=
      ⟨by show 2 ≤ sizeLine; decide, [.int i tk, .str ⟨#[c]⟩ tu], .cons ⟨_, rfl⟩ (.cons ⟨_, rfl⟩ .nil), ⟨_, hT2, rfl, _, rfl⟩⟩
    have I1 : Inv X pins σ (upd H s.heap.objs.size (.tup [.int (i : Nat), .str ⟨#[c]⟩])) { s with heap := h'', toks := tk + 1 } :=
      I.turnedNew (ch := [e, it]) (fun b ob hb q => (sb.2 b (fun z => hb (by simp [z]))).trans (hk b ob (fun z => hb (by simp [z])) (fun z => hb (by simp [z])) q)) hf (Nat.le_refl _) new
    refine ⟨.ref s.heap.objs.size, _, I1, rfl, ⟨_, c, rfl, I.hok.fresh (Nat.le_refl _), rfl, hx⟩, ⟨⟨.str ⟨#[c]⟩ tu, ?_⟩, ?_, hne, hg⟩, fun b hb => ?_⟩
    · have e1 : ((i + 1 : Nat) : Int) = (i : Int) + 1 := by omega
      rw [e1]; exact he'
    · obtain ⟨o, ho2, r⟩ := hit'
      exact ⟨o, (sb.2 it (Ne.symm hne)).trans ho2, r⟩
    · have hb' : b < s.heap.objs.size := by
        have e' : b = e ∨ b = it := by simpa using hb
        rcases e' with z | z
        · rw [z]; exact hel
        · rw [z]; exact hil
      rw [upd_ne (Nat.ne_of_lt hb')]
      exact (hf b hb).1
  done := by
    intro X hP hw hK hc i pins s σ H E I hf st hg
    subst hP hw hK
    obtain ⟨⟨old, he⟩, hit, hne, hle⟩ := st
    obtain ⟨f0, f1, f2, f3, f4, f5⟩ := hf it (by simp)
    have hi : x.cps.size ≤ i := hg
    have ei : i = x.cps.size := Nat.le_antisymm hle hi
    subst ei
    exact wpAny_pyNext_enum_endD (draws_text (A := X.A.in1) (I.ok.hd hc) it x t ty hty) he hit fun h' eb => ⟨rfl, I.turned (t' := s.toks) (fun b o hb q => eb b o hb q) f0 f1 f3 f4 f5⟩
  self := fun A i s Q E st h => let ⟨⟨_, he⟩, _⟩ := st; wpAny_pyIter_enum he h
def iEnumT (ta : TA) : TI := fun σ H R => ta σ H fun vs H1 => ∃ x, vs = [.str x] ∧ R (Itse x) H1
theorem pi_enumT {X : Cx} {e : Expr} {ta : TA} {p pos tpos : Pos} {elts : List Expr} {kk : Nat} (hg : Gl X "enumerate") (hm : X.mg "enumerate" = none) (ha : PA X [e] ta) (hs : starEach [e] X.env = [(false, eval e X.env)] := by rfl) :
    PI X (.Tuple elts kk tpos) (.Call (.Name "enumerate" p) [e] [] pos) (iEnumT ta) := by
  refine ⟨fun pins s σ H R I h => ?_⟩
  refine Call_ (ld_blt I hg hm boot_enumerate (PyProof.Rows.callWith_type1 (thn (ha.run pos pins s σ H _ I h) fun us s1 ⟨vs, H1, I1, r1, q1⟩ => ?_) hs rfl))
  obtain ⟨x, ex, q⟩ := q1
  subst ex
  cases r1 with
  | cons r rr =>
    cases rr
    obtain ⟨t, rfl⟩ := r
    have hty : strIterType x = "str_ascii_iterator" ∨ strIterType x = "str_iterator" := by unfold strIterType; split; exact .inl rfl; exact .inr rfl
    refine call_enumerate_str fun h' he hit hsz hk => wpAny_pyIter_enum he ?_
    have I2 : Inv X pins σ H1 { s1 with heap := h' } := I1.kept (t' := s1.toks) hk
    refine ⟨s1.heap.objs.size + 1, [s1.heap.objs.size + 1, s1.heap.objs.size], _, _, H1, rfl, I2, turn_enumT (s1.heap.objs.size + 1) s1.heap.objs.size x t _ hty, ⟨⟨.none, he⟩, hit, Nat.succ_ne_self _, Nat.zero_le _⟩, fun b hb => ?_, q⟩
    have e' : b = s1.heap.objs.size + 1 ∨ b = s1.heap.objs.size := by simpa using hb
    have hle : s1.heap.objs.size ≤ b := by
      rcases e' with z | z
      · rw [z]; exact Nat.le_add_right _ _
      · rw [z]; exact Nat.le_refl _
    exact I1.fpOk hle (I1.hok.fresh hle)
theorem walks_enumT {K : PySem.W.Frag} {F0 : Hp} {x : Str} (h : PyData.strOk x = true) (z : x.length ≤ sizeLine) : Dx.Walks K (Itse x) F0 (tTp [tInt K, tStr K]) (enumL (charsS x)) where
  go := fun i c F H s1 s2 e => by
    obtain ⟨y, e3, rfl⟩ := enumL_get (α := Str) (charsS x) i c e
    have e3' := e3
    unfold charsS at e3
    rw [List.getElem?_map] at e3
    obtain ⟨d, h1, h2⟩ := Option.map_eq_some_iff.mp e3
    have hi : i < x.cps.size := by have := (List.getElem?_eq_some_iff.mp h1).1; simpa using this
    refine ⟨hi, fun v' H' ⟨T, c', r1, r2, r3, r4⟩ => ?_⟩
    have : c' = d := by
      rw [← Array.getElem?_toList, h1] at r4
      cases r4; rfl
    subst r1 r3 this
    exact ⟨_, new_tup s2 r2, T, _, rfl, upd_same, .int (i : Nat), [.str ⟨#[c']⟩], rfl, rfl, .str ⟨#[c']⟩, rfl, by rw [h2], ok_char h _ (List.mem_of_getElem? e3')⟩
  stop := fun i F H s1 s2 e => by
    have : (charsS x).length ≤ i := (enumL_length (charsS x)) ▸ e
    rw [charsS_len] at this
    exact this
  len := by
    have e : (enumL (charsS x)).length = x.length := by rw [enumL_length (α := Str), charsS_len]
    exact e ▸ z
section
variable {K : PySem.W.Frag} {X : Cx} {S : Type} {Δ Δ1 : Ctx K S} {e : Expr} {elts : List Expr} {pos : Pos} {ms : List Nat} {c1 : List (S → Prop)} {ta : TE}
theorem DI.enumT {f : S → Str} {px tpos : Pos} {kk : Nat} (hm : X.mg "enumerate" = none) (he : DX K X Δ e (tStr K) ms c1 Δ1 f ta) (hg : Gl X "enumerate" := by rfl) (hs : starEach [e] X.env = [(false, eval e X.env)] := by rfl) (hs2 : starEach [e] X.env = (false, eval e X.env) :: starEach [] X.env := by rfl) :
    DI K X Δ (.Tuple elts kk tpos) (.Call (.Name "enumerate" px) [e] [] pos) (tTp [tInt K, tStr K]) ms (c1 ++ [fun s => (f s).length ≤ sizeLine]) Δ1 (fun s => enumL (charsS (f s))) (iEnumT (tCons ta tNil)) := by
  obtain ⟨d1, p, r⟩ := he
  refine ⟨d1, pi_enumT hg hm (pa_cons p pa_nil hs2) hs, fun s F H σ hh sm hc R q => ?_⟩
  obtain ⟨k1, k2, _⟩ := conj_app hc
  exact r s F H σ hh sm k1 _ fun v F1 H1 g1 hh1 r1 => ⟨f s, by rw [show v = .str (f s) from r1.1], q _ F1 H1 g1 hh1 (walks_enumT r1.2 k2)⟩
end
section
variable {K : PySem.W.Frag} {X : Cx} {S : Type} {Δ Δ1 Δ2 : Ctx K S} {e a b : Expr} {pos px : Pos} {τ : Ty K} {ms m1 m2 mus : List Nat} {c1 c2 : List (S → Prop)} {ta tb : TE} {i n : Nat} {x : Str}
def rRepS : R2 := fun x y H Q => ∃ z i, x = .str z ∧ y = .int i ∧ RepS z i ∧ Q (.str (repS z i)) H
theorem op_repS : OpR X (binaryOp .Mult) rRepS := by
  intro pins s σ H x y v u Q I rx ry h
  obtain ⟨z, i, rfl, rfl, ⟨h0, h1, h2⟩, q⟩ := h
  obtain ⟨t, rfl⟩ := rx
  obtain ⟨t', rfl⟩ := ry
  have big : 1000000 ≤ sizeLine := by decide
  refine PySem.P.mul_str ?_ (fun hp hk => ?_) (fun hp hk => ?_) ?_
  · rw [decide_eq_false (by omega), decide_eq_false (by omega)]; rfl
  · have hl : (z.length : Int) ≤ 1000000 := by
      have : z.length * 1 ≤ z.length * i.toNat := Nat.mul_le_mul_left _ (by omega)
      omega
    have : (2 ^ 63 - 1 : Int) / i ≥ (2 ^ 63 - 1 : Int) / 1000000 := by
      have a := Int.ediv_mul_le (2 ^ 63 - 1 : Int) (show (1000000 : Int) ≠ 0 by decide)
      refine (Int.le_ediv_iff_mul_le (by omega)).mpr ?_
      refine Int.le_trans (Int.mul_le_mul_of_nonneg_left h1 (by decide)) a
    have e : (2 ^ 63 - 1 : Int) / 1000000 = 9223372036854 := by decide
    omega
  · show decide (_ > sizeLine) = false
    exact decide_eq_false (by omega)
  · have fin : ∀ w, repS z i = w → EP X pins σ Q (.str w s.toks) { s with toks := s.toks + 1 } := fun w e => ⟨.str w, H, I.tok _, ⟨_, rfl⟩, by rw [← e]; exact q⟩
    by_cases a1 : i < 1
    · rw [if_pos a1]
      exact ⟨by decide, fin _ (by unfold repS; rw [if_pos a1])⟩
    · rw [if_neg a1]
      by_cases a2 : (i == 1 || z.length == 0) = true
      · rw [if_pos a2]
        exact ⟨.str z, H, I, ⟨_, rfl⟩, by have : repS z i = z := by unfold repS; rw [if_neg a1, if_pos a2]
                                          rw [← this]; rw [this]; rw [this] at q; exact q⟩
      · rw [if_neg a2]
        have e : repS z i = ⟨(List.replicate i.toNat z.cps).foldl (· ++ ·) #[]⟩ := by unfold repS; rw [if_neg a1, if_neg a2]
        refine ⟨?_, fin _ e⟩
        have := repS_len (x := z) (n := i)
        rw [e] at this
        have hl : (⟨(List.replicate i.toNat z.cps).foldl (· ++ ·) #[]⟩ : Str).length ≤ sizeLine := by omega
        exact hl
theorem DX.repS {f : S → Str} {g : S → Int} (ha : DX K X Δ a (tStr K) m1 c1 Δ1 f ta) (hb : DX K X Δ1 b (tInt K) m2 c2 Δ2 g tb) : DX K X Δ (.BinOp a .Mult b pos) (tStr K) (m1 ++ m2) (c1 ++ (c2 ++ [fun s => RepS (f s) (g s)])) Δ2 (fun s => Dx.repS (f s) (g s)) (tOp rRepS ta tb) :=
  DX.bin (τ := tStr K) (cc := [fun (x : Str) (y : Int) => RepS x y]) (g := fun (x : Str) (y : Int) => Dx.repS x y) (fun x y v u F H sm r1 r2 hc Q q => ⟨x, y, r1.1, r2, hc.1, q _ F H (Gr.refl sm) ⟨rfl, ok_repS r1.2⟩⟩) ha hb fun p q => pe_op op_repS p q
/-- x += text -/
theorem DS.augT {f fe : S → Str} {px : Pos} (he : DX K X Δ e (tStr K) [] c1 Δ fe ta) (h : Δ[i]? = some (.fz (tStr K) f)) (hN : X.N.Nodup) (hi : X.N[i]? = some x) (hx : Loc X.env.scope x) (hu : i ∉ mus) (hf : X.fn x = true ∨ X.env.scope.names.lookup x = some .local := by first | exact .inl rfl | exact .inr rfl | assumption) : DS K X mus Δ (.AugAssign (.Name x px) .Add e pos) (c1 ++ [fun s => (f s).length + (fe s).length ≤ sizeLine]) (Δ.set i (.fz (tStr K) fun s => f s ++ fe s)) := by
  obtain ⟨d1, p, r⟩ := he
  refine ⟨_, ps_aug hN hi hx p (ti := fun x y H Q => ∃ i j, x = .str i ∧ y = .str j ∧ i.length + j.length ≤ sizeLine ∧ Q (.str (i ++ j)) H) (fun pins s σ H x y u v Q I rx ry h => iop_add_str pins s σ H x y u v Q I rx ry h) hf, fun s F H σ hh sm hc D q => ?_⟩
  obtain ⟨k1, k2, _⟩ := conj_app hc
  have hl : i < σ.length := by rw [hh.len]; exact (List.getElem?_eq_some_iff.mp h).1
  obtain ⟨o, ho⟩ : ∃ o, σ[i]? = some o := ⟨_, List.getElem?_eq_getElem hl⟩
  obtain ⟨v, ev, rv⟩ := hh.at_ i _ o h ho
  refine ⟨v, by rw [ho, ev], r s F H σ hh sm k1 _ fun w F1 H1 g1 hh1 r1 => ⟨f s, fe s, rv.1, r1.1, k2, ?_⟩⟩
  rw [msAt_nil] at g1
  have gs : GrS mus Δ σ Δ σ F H F1 H1 := gs0 (ms := []) trivial Diff.refl hh (by rw [msAt_nil]; exact g1)
  exact q _ F1 H1 (gs.set hu hh1.len.symm fun _ _ _ z _ => nomatch z) (hh1.setF (show (tStr K).rep F1 (.str (f s ++ fe s)) (f s ++ fe s) from ⟨rfl, ok_app rv.2 r1.2⟩))
/-- repr of data of any kind -/
def ShowA (d : PyData) : Prop := d.showable = true ∧ d.hasDict = false ∧ d.shown.length ≤ sizeLine
theorem DX.reprA {k : Nat} {f : S → PyData} (hr : RoomG k X.A) (hm : X.mg "repr" = none) (he : DX K X Δ e (tAny K n) ms c1 Δ1 f ta) (hn : n ≤ 64 := by decide) (hK : X.K = K := by rfl) (hg : Gl X "repr" := by rfl) (hs : starEach [e] X.env = (false, eval e X.env) :: starEach [] X.env := by rfl) (hpl : (backTo pos (starEach [] X.env)).any (·.1) = false := by rfl) :
    DX K X Δ (.Call (.Name "repr" px) [e] [] pos) (tTxt K) ms (c1 ++ [fun s => ShowA (f s)]) Δ1 (fun s => (f s).shown) (tCB (rRepr K) (tCons ta tNil)) := by
  subst hK
  exact DX.call1 (τ1 := tTxt X.K) (cc := [ShowA]) (g := fun (x : PyData) => x.shown) (call_repr_d hr) (fun v x F H sm (r : (tAny X.K n).rep F v x) hc Q q => ⟨v, x, rfl, dp_mono sm _ _ r.1, hc.1.1, hc.1.2.1, Nat.le_trans r.2.2 hn, hc.1.2.2, q _ F H (Gr.refl sm) rfl⟩) hm (by decide +kernel) he hg (by decide) (by decide) hs hpl
end
end Dx

set_option maxHeartbeats 4000000
/-! Dx, part c: tuples of any length. -/
namespace Dx
open PySem PySem.Spec PyProof PyProof.Rows L2
theorem tuple_mul1 (l : Addr) (items : Array Value) (n : Nat) (dd : Option Addr) (sl : Array (Option Value)) (u : Tok) :
    Meets (Builtin.«tuple.__mul__» ⟨[.ref l, .int 1 u], []⟩) (fun _ R s => s.heap.get? l = some { cls := .type "tuple", dict := dd, data := .seq items n, slots := sl } ∧ R (.ok (.ret (Value.ref l))) s) :=
  .of_wp fun prog w A R s h => by
    obtain ⟨hp, g, d, tk, os⟩ := s
    obtain ⟨hl, h⟩ := h
    have f1 := AutoSeq1.idx_int
    have c1 : (items.isEmpty || (1 : Int) == 1) = true := by simp
    wp_walk using wpAny_loadPart' hl
    all_goals exact ⟨_, rfl, h⟩
section
variable {X : Cx}
def rRep1 (K : PySem.W.Frag) : R2 := fun x y H Q => ∃ l k xs, x = .ref l ∧ y = .int k ∧ SqT K H l xs ∧ xs ≠ [] ∧ 1 ≤ k ∧ k ≤ 1000 ∧ xs.length ≤ 1000 ∧ (k = 1 → Q (.ref l) H) ∧ (2 ≤ k → ∀ p, H p = none → Q (.ref p) (upd H p (.tup (List.replicate k.toNat xs).flatten)))
theorem op_rep1 : OpR X (binaryOp .Mult) (rRep1 X.K) := by
  intro pins s σ H x y v u Q I rx ry h
  obtain ⟨l, k, xs, rfl, rfl, hT, hne, h1, h2, hz, q1, q2⟩ := h
  by_cases e : k = 1
  · subst e
    cases rx
    obtain ⟨t, rfl⟩ := ry
    obtain ⟨its, r, ⟨⟨cls, dd, data, sl⟩, ho, hc, n, hd⟩, hs⟩ := I.tuple hT
    simp only at hc hd
    subst hc hd
    refine wpAny_binaryOp_repeat_ref (T := "tuple") (U := "int") (by decide) ⟨_, ho, rfl⟩ (fun s' => typeIs_int s' 1 t) noFill_tuple_mul F.fills_int_mul F.slot_int_rmul repeat_tuple F.slot_int_index.lookup
      (call_meets F.slot_int_rmul (typeIs_int s 1 t) F.entry_int_rmul (F.args_int_rmul_2 _ _) (int_rmul_tuple 1 t l its.toArray n dd sl)
        ⟨ho, rfl, ⟨_, ho, rfl⟩, call_meets F.slot_tuple_mul ⟨_, ho, rfl⟩ F.entry_tuple_mul (F.args_tuple_mul_2 _ _) (tuple_mul1 l its.toArray n dd sl t) ⟨ho, ?_⟩⟩)
    exact ⟨.ref l, H, I, rfl, q1 rfl⟩
  · exact op_repT pins s σ H _ _ v u Q I rx ry ⟨l, k, xs, rfl, rfl, hT, hne, by omega, h2, hz, q2 (by omega)⟩
end
section
variable {K : PySem.W.Frag}
/-- a tuple of any length -/
abbrev tSeq (τ : Ty K) : Ty K := ⟨List τ.α, fun F v xs => ∃ a vs, v = .ref a ∧ F a = some (.tup vs) ∧ Paired (τ.rep F) vs xs ∧ xs.length ≤ sizeLine,
  fun h ⟨a, vs, e, q, p, z⟩ => ⟨a, vs, e, h _ _ q, paired_mono (fun _ _ r => τ.mono h r) p, z⟩⟩
theorem lf_seq {τ : Ty K} (h : LF τ) : LF (tSeq τ) := fun F F' v x k ⟨a, vs, e, q, p, z⟩ => ⟨a, vs, e, k a vs q, paired_mono (fun v y r => h F F' v y k r) p, z⟩
def dfSeq {α : Type} (d : DF α) : DF (List α) := ⟨fun xs => .tuple (xs.map d.toD), @instDecidableEqList α d.dec, d.n + 1⟩
theorem pd_seq {α : Type} {d : DF α} (h : PlainD d) : PlainD (dfSeq d) := ⟨fun xs => (pd_list h).dep xs, fun xs ys => (pd_list h).eqv xs ys, fun xs => (pd_list h).nodict xs⟩
theorem dat_seq {τ : Ty K} {d : DF τ.α} (h : Dat τ d) : Dat (tSeq τ) (dfSeq d) := ⟨fun ⟨a, vs, e, q, p, _⟩ => by
    rw [e]
    exact .tup (.inl (.inl q)) (dp_all h p).1, fun ⟨a, vs, e, q, p, _⟩ => (dp_all h p).2, pd_seq h.pl⟩
end
section
variable {K : PySem.W.Frag} {X : Cx} {S R : Type} {Δ Δ1 Δ2 : Ctx K S} {e a b : Expr} {pos px : Pos} {τ : Ty K} {ms m1 m2 : List Nat} {c1 c2 cs : List (S → Prop)} {ta tb : TE} {i n : Nat} {x : Str} {mus : List Nat} {sts : List Stmt} {fm : Fm K R}
theorem sqt {F H : Hp} {a : Addr} {vs : List V} (sm : Same F H) (h : F a = some (.tup vs)) : SqT K H a vs := .inl (.inl (sm _ _ h))
/-- len of such a tuple -/
theorem DX.lenSq {px : Pos} {f : S → List τ.α} (hm : X.mg "len" = none) (he : DX K X Δ e (tSeq τ) ms c1 Δ1 f ta) (hK : X.K = K := by rfl) (hg : Gl X "len" := by rfl) (hs : starEach [e] X.env = (false, eval e X.env) :: starEach [] X.env := by rfl) (hpl : (backTo pos (starEach [] X.env)).any (·.1) = false := by rfl) :
    DX K X Δ (.Call (.Name "len" px) [e] [] pos) (tInt K) ms (c1 ++ []) Δ1 (fun s => ((f s).length : Int)) (tCB (fun xs H Q => ∃ p ys, xs = [.ref p] ∧ (SqL K H p ys ∨ SqT K H p ys) ∧ Q (.int ys.length) H) (tCons ta tNil)) := by
  subst hK
  exact DX.call1 (τ1 := tInt X.K) (cc := []) (g := fun (x : List τ.α) => (x.length : Int)) call_len_seq (fun v x F H sm r _ Q q => by
    obtain ⟨a, vs, ev, sq, pr, _⟩ := r
    exact ⟨a, vs, by rw [ev], .inr (sqt sm sq), q _ F H (Gr.refl sm) (by rw [pr.length])⟩) hm PySem.boot_len he hg (by decide) (by decide) hs hpl
/-- x[i] -/
theorem DX.ixSq (d : τ.α) {f : S → List τ.α} {g : S → Int} (ha : DX K X Δ a (tSeq τ) m1 c1 Δ1 f ta) (hb : DX K X Δ1 b (tInt K) m2 c2 Δ2 g tb) (hp : PlainIx b := by exact fun _ _ => rfl) (hK : X.K = K := by rfl) : DX K X Δ (.Subscript a b pos) τ (m1 ++ m2) (c1 ++ (c2 ++ [fun s => IxOk (f s) (g s)])) Δ2 (fun s => ixI d (f s) (g s)) (tOp (rIxT K) ta tb) := by
  subst hK
  exact DX.bin (τ := τ) (cc := [fun (x : List τ.α) (i : Int) => IxOk x i]) (g := fun (x : List τ.α) (i : Int) => ixI d x i) (fun x y v u F H sm r1 r2 hc Q q => by
    obtain ⟨p, vs, e, sq, pr, _⟩ := r1
    have r2' : v = _ := rfl
    subst e
    have r2'' : u = .int y := r2
    subst r2''
    obtain ⟨j, e1, e2⟩ := ix_at (d := d) hc.1
    obtain ⟨z, e3, rz⟩ := paired_at pr e2
    refine ⟨p, vs, y, z, rfl, rfl, sqt sm sq, ?_, q z F H (Gr.refl sm) rz⟩
    unfold atI
    rw [pr.length, e1]
    exact e3) ha hb fun p q => pe_ix ix_tup p q hp
/-- tuple(list) -/
theorem DX.tupOf {px : Pos} {f : S → List τ.α} (hm : X.mg "tuple" = none) (he : DX K X Δ e (tList τ) ms c1 Δ1 f ta) (hK : X.K = K := by rfl) (hg : Gl X "tuple" := by rfl) (hs : starEach [e] X.env = (false, eval e X.env) :: starEach [] X.env := by rfl) :
    DX K X Δ (.Call (.Name "tuple" px) [e] [] pos) (tSeq τ) ms c1 Δ1 f (tThen ta (kTup K)) := by
  subst hK
  obtain ⟨d1, p, r⟩ := he
  refine ⟨d1, pe_tupleOf hg hm p hs, fun s F H σ hh sm hc Q q => ?_⟩
  refine r s F H σ hh sm hc _ fun v F1 H1 g1 hh1 ⟨a, vs, ev, sq, pr, z⟩ => .inl ⟨a, vs, ev, .inl (.inl (g1.fh _ _ sq)), fun p n => ?_⟩
  have g2 : Gr No F1 H1 (upd F1 p (.tup vs)) (upd H1 p (.tup vs)) := Gr.new g1.fh n
  exact q _ _ _ (g1.trans g2.of0) (hh1.grow g2) ⟨p, vs, rfl, upd_same, paired_mono (fun _ _ r => τ.mono g2.ff r) pr, z⟩
/-- list(x) -/
theorem DO.listSq {px : Pos} {f : S → List τ.α} (hm : X.mg "list" = none) (he : DX K X Δ e (tSeq τ) ms c1 Δ1 f ta) (hK : X.K = K := by rfl) (hg : Gl X "list" := by rfl) (hs : starEach [e] X.env = (false, eval e X.env) :: starEach [] X.env := by rfl) (hpl : (backTo pos (starEach [] X.env)).any (·.1) = false := by rfl) :
    DO K X Δ (.Call (.Name "list" px) [e] [] pos) (oList τ) ms c1 Δ1 f (tCB (fun xs H Q => ∃ p ys, xs = [.ref p] ∧ (SqL K H p ys ∨ SqT K H p ys) ∧ ∀ l, H l = none → Q (.ref l) (upd H l (.lst ys))) (tCons ta tNil)) := by
  subst hK
  refine DO.call1 (ω := oList τ) (g := fun (x : List τ.α) => x) (fun v x F H sm r Q q => ?_) he (fun pa => pe_callTy call_list_of hg hm (by decide +kernel) pa (by decide) (by decide) hs hpl) hs
  obtain ⟨a, vs, ev, sq, pr, z⟩ := r
  exact ⟨a, vs, by rw [ev], .inr (sqt sm sq), fun p n => q p _ n ⟨_, rfl, pr, z⟩⟩
theorem paired_rep {α β : Type} {R : α → β → Prop} {v : α} {y : β} (h : R v y) : ∀ n : Nat, Paired R (List.replicate n [v]).flatten (List.replicate n y)
  | 0 => .nil
  | n + 1 => by
    rw [List.replicate_succ, List.replicate_succ, List.flatten_cons]
    exact .cons h (paired_rep h n)
theorem rep_small {α : Type} {x : α} {y : Int} (h : y ≤ 1000) : (List.replicate y.toNat x).length ≤ sizeLine := by
  have := sizeLine_eq
  rw [List.length_replicate]; omega
/-- (x,) * n -/
theorem DX.mul1 {f : S → τ.α} {g : S → Int} (ha : DX K X Δ a (tTp [τ]) m1 c1 Δ1 f ta) (hb : DX K X Δ1 b (tInt K) m2 c2 Δ2 g tb) (hK : X.K = K := by rfl) : DX K X Δ (.BinOp a .Mult b pos) (tSeq τ) (m1 ++ m2) (c1 ++ (c2 ++ [fun s => 1 ≤ g s ∧ g s ≤ 1000])) Δ2 (fun s => List.replicate (g s).toNat (f s)) (tOp (rRep1 K) ta tb) := by
  subst hK
  have h : R2ok X.K (rRep1 X.K) (tTp [τ]) (tInt X.K) (tSeq τ) [fun (x : τ.α) (i : Int) => 1 ≤ i ∧ i ≤ 1000] (fun (x : τ.α) (i : Int) => List.replicate i.toNat x) := fun x y v u F H sm r1 r2 hc Q q => by
    obtain ⟨p, vs, e, sq, w, ew, rw_⟩ := r1
    subst e ew
    have r2'' : u = .int y := r2
    subst r2''
    have hs : sizeLine = 16777216 := sizeLine_eq
    refine ⟨p, y, [w], rfl, rfl, sqt sm sq, by simp, hc.1.1, hc.1.2, by simp, fun e1 => ?_, fun h2 l n => ?_⟩
    · subst e1
      exact q _ F H (Gr.refl sm) ⟨p, [w], rfl, sq, .cons rw_ .nil, by show 1 ≤ sizeLine; omega⟩
    · have g2 : Gr No F H (upd F l (.tup (List.replicate y.toNat [w]).flatten)) (upd H l (.tup (List.replicate y.toNat [w]).flatten)) := Gr.new sm n
      exact q _ _ _ g2 ⟨l, _, rfl, upd_same, paired_rep (τ.mono g2.ff rw_) _, by
        exact rep_small (α := τ.α) (x := x) hc.1.2⟩
  exact DX.bin h ha hb fun p q => pe_op op_rep1 p q
end
/-! ### an own list told anew -/
section
variable {K : PySem.W.Frag} {X : Cx} {S R : Type} {Δ Δ1 : Ctx K S} {τ : Ty K} {ω ω' : OTy K} {i : Nat} {mus : List Nat} {sts : List Stmt} {fm : Fm K R} {cs : List (S → Prop)} {s : S} {F H : Hp} {σ : L2.St}
theorem Holds.re {f : S → ω.τ.α} {f' : S → ω'.τ.α} (hh : Holds Δ s F H σ) (h : Δ[i]? = some (.ow ω f)) (hc : ∀ u, ω.own F u (f s) → ω'.own F u (f' s)) : Holds (Δ.set i (.ow ω' f')) s F H σ where
  len := by rw [List.length_set, hh.len]
  at_ := fun j sl o e1 e2 => by
    rcases get_set1 e1 with ⟨rfl, rfl, _⟩ | ⟨n1, e1⟩
    · obtain ⟨p, u, e3, n, hp, w⟩ := hh.at_ i _ o h e2
      exact ⟨p, u, e3, n, hp, hc u w⟩
    · exact hh.at_ j sl o e1 e2
  sep := fun j k ω1 ω2 g g' q ne e1 e2 e3 => by
    rcases get_set1 e1 with ⟨a1, _, _⟩ | ⟨_, e1⟩
    · rcases get_set1 e2 with ⟨a2, _, _⟩ | ⟨_, e2⟩
      · exact absurd (a1.symm.trans a2) ne
      · subst a1
        exact hh.sep _ k ω ω2 f g' q ne h e2 e3
    · rcases get_set1 e2 with ⟨a2, _, _⟩ | ⟨_, e2⟩
      · subst a2
        exact hh.sep j _ ω1 ω g f q ne e1 h e3
      · exact hh.sep j k ω1 ω2 g g' q ne e1 e2 e3
theorem grs_re {f : S → ω.τ.α} {f' : S → ω'.τ.α} (sm : Same F H) (h : Δ[i]? = some (.ow ω f)) : GrS mus Δ σ (Δ.set i (.ow ω' f')) σ F H F H where
  ff := Same.refl F
  fh := sm
  fresh := fun a o e => .inl e
  keep := fun a o e _ => e
  dom := fun a e => e
  own := fun a ⟨j, ω2, g, e1, e2⟩ => by
    rcases get_set1 e1 with ⟨a1, _, _⟩ | ⟨_, e1⟩
    · subst a1; exact .inl ⟨_, ω, f, h, e2⟩
    · exact .inl ⟨j, ω2, g, e1, e2⟩
  mu := fun _ _ => rfl
theorem own_some (nv : ∀ {F : Hp} {v : V} {x : τ.α}, τ.rep F v x → v ≠ .non) {F : Hp} {u : HO} {xs : List τ.α} (h : (oList τ).own F u xs) : (oList (tOpt τ)).own F u (xs.map some) := by
  obtain ⟨vs, e, p, z⟩ := h
  refine ⟨vs, e, ?_, by rw [List.length_map]; exact z⟩
  clear e z
  induction p with
  | nil => exact .nil
  | cons r _ ih => exact .cons ⟨nv r, r⟩ ih
theorem DR.some (i : Nat) {f : S → List τ.α} {g : S → R} (nv : ∀ {F : Hp} {v : V} {x : τ.α}, τ.rep F v x → v ≠ .non) (h : Δ[i]? = Option.some (.ow (oList τ) f)) (hb : DR K X fm (Δ.set i (.ow (oList (tOpt τ)) fun s => (f s).map Option.some)) sts cs g) : DR K X fm Δ sts cs g := by
  obtain ⟨t, p, r⟩ := hb
  refine ⟨t, p, fun s F H σ hh sm hc D q => ?_⟩
  have g := grs_re (mus := musOf 0 fm.ps) (ω' := oList (tOpt τ)) (f' := fun s => (f s).map Option.some) (σ := σ) sm h
  exact r s F H σ (hh.re h fun u w => own_some nv w) sm hc D (q.back g)
theorem DN.some (i : Nat) {f : S → List τ.α} (nv : ∀ {F : Hp} {v : V} {x : τ.α}, τ.rep F v x → v ≠ .non) (h : Δ[i]? = Option.some (.ow (oList τ) f)) (hb : DN K X mus (Δ.set i (.ow (oList (tOpt τ)) fun s => (f s).map Option.some)) sts cs Δ1) : DN K X mus Δ sts cs Δ1 := by
  obtain ⟨t, p, r⟩ := hb
  refine ⟨t, p, fun s F H σ hh sm hc D q => ?_⟩
  have g := grs_re (mus := mus) (ω' := oList (tOpt τ)) (f' := fun s => (f s).map Option.some) (σ := σ) sm h
  exact r s F H σ (hh.re h fun u w => own_some nv w) sm hc D fun σ1 F1 H1 g1 hh1 => q σ1 F1 H1 (g.trans g1) hh1
theorem DM.some (i : Nat) {f : S → List τ.α} {g : S → Option R} (nv : ∀ {F : Hp} {v : V} {x : τ.α}, τ.rep F v x → v ≠ .non) (h : Δ[i]? = Option.some (.ow (oList τ) f)) (hb : DM K X fm (Δ.set i (.ow (oList (tOpt τ)) fun s => (f s).map Option.some)) sts cs g Δ1) : DM K X fm Δ sts cs g Δ1 := by
  obtain ⟨t, p, r⟩ := hb
  refine ⟨t, p, fun s F H σ hh sm hc D q1 q2 => ?_⟩
  have g := grs_re (mus := musOf 0 fm.ps) (ω' := oList (tOpt τ)) (f' := fun s => (f s).map Option.some) (σ := σ) sm h
  exact r s F H σ (hh.re h fun u w => own_some nv w) sm hc D (fun x e => (q1 x e).back g) fun e σ1 F1 H1 g1 hh1 => q2 e σ1 F1 H1 (g.trans g1) hh1
theorem nv_tup {ts : List (Ty K)} {F : Hp} {v : V} {x : HL ts} (r : (tTp ts).rep F v x) : v ≠ .non := fun z => by
  obtain ⟨a, vs, e, _⟩ := r
  rw [z] at e; cases e
end
end Dx

/-! Dx, part d: an own list lent to a statement. -/
namespace Dx
open PySem PySem.Spec PyProof PyProof.Rows L2
section
variable {K : PySem.W.Frag} {X : Cx} {S : Type} {Δ Δ1 : Ctx K S} {ω : OTy K} {i : Nat} {mus : List Nat} {st : Stmt} {cs : List (S → Prop)}
def LfSlot : Slot K S → Prop
  | .dead => True
  | .fz τ _ => LF τ
  | .ow ω _ => LFo ω
/-- each slot behind the statement holds no list, or is one that stayed -/
inductive Lends (js : List Nat) (i : Nat) : Nat → Ctx K S → Ctx K S → Prop
  | nil {k : Nat} : Lends js i k [] []
  | self {Δ Δ1 : Ctx K S} {a b : Slot K S} (t : Lends js i (i + 1) Δ Δ1) : Lends js i i (a :: Δ) (b :: Δ1)
  | lf {k : Nat} {Δ Δ1 : Ctx K S} {a b : Slot K S} (h : LfSlot b) (t : Lends js i (k + 1) Δ Δ1) : Lends js i k (a :: Δ) (b :: Δ1)
  | stay {k : Nat} {Δ Δ1 : Ctx K S} {τ : Ty K} {f : S → τ.α} (h : k ∈ js) (t : Lends js i (k + 1) Δ Δ1) : Lends js i k (.fz τ f :: Δ) (.fz τ f :: Δ1)
theorem Lends.at_ {js : List Nat} {i : Nat} : ∀ {k : Nat} {Δ Δ1 : Ctx K S}, Lends js i k Δ Δ1 → ∀ (j : Nat) (sl : Slot K S), Δ1[j]? = some sl → k + j = i ∨ LfSlot sl ∨ (k + j ∈ js ∧ ∃ (τ : Ty K) (f : S → τ.α), sl = .fz τ f ∧ Δ[j]? = some (.fz τ f))
  | _, _, _, .nil, j, sl, e => by simp at e
  | _, _, _, .self t, 0, sl, e => .inl rfl
  | _, _, _, .self t, j + 1, sl, e => by
    have := t.at_ j sl e
    rwa [show i + (j + 1) = i + 1 + j by omega]
  | _, _, _, .lf h t, 0, sl, e => by
    have e' : _ = sl := Option.some.inj e
    subst e'
    exact .inr (.inl h)
  | k, _, _, .lf h t, j + 1, sl, e => by
    have := t.at_ j sl e
    rwa [show k + (j + 1) = k + 1 + j by omega]
  | _, _, _, .stay h t, 0, sl, e => by
    have e' : _ = sl := Option.some.inj e
    subst e'
    exact .inr (.inr ⟨h, _, _, rfl, rfl⟩)
  | k, _, _, .stay h t, j + 1, sl, e => by
    have := t.at_ j sl e
    rwa [show k + (j + 1) = k + 1 + j by omega]
theorem DS.lend (i : Nat) (js : List Nat) {f : S → ω.τ.α} (h : Δ[i]? = some (.ow ω f)) (hd : DS K X (i :: (js ++ mus)) (Δ.set i (.fz ω.τ f)) st cs Δ1) (ok : Lends js i 0 Δ Δ1) : DS K X mus Δ st cs (Δ1.set i (.ow ω f)) := by
  obtain ⟨t, p, r⟩ := hd
  refine ⟨t, p, fun s F H σ hh sm hc D q => ?_⟩
  obtain ⟨a, u, e1, e2, e3, o⟩ := own_at hh h
  refine r s _ H σ (hh.freeze h e1 e3 e2) (grs_freeze (mus := mus) hh sm h e1 e3 e2).fh hc D fun σ1 F1 H1 g1 hh1 => ?_
  have fu : F1 a = some u := g1.ff _ _ upd_same
  have hu : H1 a = some u := g1.fh _ _ fu
  have no : ∀ xs, u ≠ .tup xs := ω.obj o
  have si : σ1[i]? = some (some (.ref a)) := by rw [g1.mu i (List.mem_cons_self ..)]; exact e1
  have s2 : Same (fun b => if b = a then none else F1 b) F1 := fun b o z => by
    by_cases w : b = a
    · simp only [if_pos w] at z; cases z
    · simp only [if_neg w] at z; exact z
  have tt : ∀ b xs, F1 b = some (.tup xs) → (fun b => if b = a then none else F1 b) b = some (.tup xs) := fun b xs z => by
    have w : b ≠ a := fun w => by subst w; rw [fu] at z; exact no xs (Option.some.inj z)
    simp only [if_neg w]
    exact z
  have ff : Same F (fun b => if b = a then none else F1 b) := fun b o z => by
    have w : b ≠ a := fun w => by subst w; rw [e2] at z; cases z
    simp only [if_neg w]
    exact g1.ff _ _ (by rw [upd_ne w]; exact z)
  have ob : ∀ b, Own (Δ.set i (.fz ω.τ f)) σ b → Own Δ σ b := fun b ⟨j, ω2, g, k1, k2⟩ => by
    rcases get_set1 k1 with ⟨_, z, _⟩ | ⟨_, k1⟩
    · cases z
    · exact ⟨j, ω2, g, k1, k2⟩
  have gs : GrS mus Δ σ (Δ1.set i (.ow ω f)) σ1 F H (fun b => if b = a then none else F1 b) H1 := {
    ff := ff
    fh := s2.trans g1.fh
    fresh := fun b o z => by
      by_cases w : b = a
      · simp only [if_pos w] at z; cases z
      · simp only [if_neg w] at z
        rcases g1.fresh b o z with y | y | y
        · rw [upd_ne w] at y; exact .inl y
        · exact .inr (.inl y)
        · exact .inr (.inr (ob b y))
    keep := fun b o z n => g1.keep b o z fun y => n (ob b y)
    dom := g1.dom
    own := fun b ⟨j, ω2, g, k1, k2⟩ => by
      rcases get_set1 k1 with ⟨z, _, _⟩ | ⟨_, k1⟩
      · subst z
        rw [si] at k2
        cases k2
        exact .inl ⟨_, ω, f, h, e1⟩
      · rcases g1.own b ⟨j, ω2, g, k1, k2⟩ with y | y
        · exact .inl (ob b y)
        · exact .inr y
    mu := fun k m => g1.mu k (List.mem_cons_of_mem _ (List.mem_append_right _ m)) }
  refine q σ1 _ H1 gs ⟨by rw [List.length_set]; exact hh1.len, fun j sl o' k1 k2 => ?_, fun j l ω1 ω2 f1 f2 q n k1 k2 k3 => ?_⟩
  · rcases get_set1 k1 with ⟨rfl, rfl, _⟩ | ⟨n, k1⟩
    · rw [si] at k2; cases k2
      exact ⟨a, u, rfl, by simp, hu, ω.mono ff o⟩
    · have r1 := hh1.at_ j sl o' k1 k2
      rcases ok.at_ j sl k1 with y | y | ⟨y, τ, g, rfl, k4⟩
      · exact absurd (by omega) n
      · cases sl with
        | dead => trivial
        | fz τ g => obtain ⟨v, w1, w2⟩ := r1; exact ⟨v, w1, y F1 _ v _ tt w2⟩
        | ow ω2 g =>
          obtain ⟨p2, u2, w1, w2, w3, w4⟩ := r1
          refine ⟨p2, u2, w1, ?_, w3, y F1 _ u2 _ tt w4⟩
          cases z : (fun b => if b = a then none else F1 b) p2 with
          | none => rfl
          | some o => rw [s2 _ _ z] at w2; cases w2
      · rw [Nat.zero_add] at y
        have k5 := g1.mu j (List.mem_cons_of_mem _ (List.mem_append_left _ y))
        rw [k2] at k5
        obtain ⟨v, w1, w2⟩ := hh.at_ j _ o' k4 k5.symm
        exact ⟨v, w1, τ.mono ff w2⟩
  · have apart : ∀ (l : Nat) (ω2 : OTy K) (g : S → ω2.τ.α), Δ1[l]? = some (.ow ω2 g) → σ1[l]? ≠ some (some (.ref a)) := fun l ω2 g k e => by
      obtain ⟨p2, u2, w1, w2, _⟩ := hh1.at_ l _ _ k e
      cases w1
      rw [fu] at w2; cases w2
    rcases get_set1 k1 with ⟨z1, _, _⟩ | ⟨_, k1⟩
    · subst z1
      rw [si] at k3
      cases k3
      rcases get_set1 k2 with ⟨z2, _, _⟩ | ⟨_, k2⟩
      · exact absurd z2 n
      · exact apart l ω2 f2 k2
    · rcases get_set1 k2 with ⟨z2, _, _⟩ | ⟨_, k2⟩
      · subst z2
        rw [si]
        intro z
        cases z
        exact apart j ω1 f1 k1 k3
      · exact hh1.sep j l ω1 ω2 f1 f2 q n k1 k2 k3
end
end Dx

/-! Dx, part e: dict(pairs) of ints, d[k]. -/
namespace Dx
open PySem PySem.Spec PyProof PyProof.Rows L2
def addrAt (its : List Value) (j : Nat) : Addr := match its[j]? with | some (.ref T) => T | _ => 0
/-- the pairs of a list, as they lie -/
def PairV (K : PySem.W.Frag) (H : Hp) (v : V) (kv : Key × V) : Prop := ∃ T, v = .ref T ∧ SqT K H T [kV kv.1, kv.2]
section
variable {X : Cx} {pins : List (Addr × Obj)} {σ : L2.St} {H : Hp} {s : Shared}
theorem pairs_lie (I : L2.Inv X pins σ H s) : ∀ {xs : List V} {kvs : List (Key × V)} {its : List Value}, Vals xs its → Paired (PairV X.K H) xs kvs →
    ∃ tr : List (Key × Value × Value), KV kvs (tr.map fun t => (t.1, t.2.2)) ∧ tr.length = its.length ∧ ∀ j t, tr[j]? = some t → its[j]? = some (.ref (addrAt its j)) ∧ PairAt s.heap (addrAt its j) t.2.1 t.2.2 ∧ (mixKind X.prog X.w).is t.1 t.2.1 = true
  | _, _, _, .nil, .nil => ⟨[], .nil, rfl, fun j t e => by simp at e⟩
  | _, _, it :: its, .cons rv r, .cons (b := kv) pv p => by
    obtain ⟨T, e, sq⟩ := pv
    subst e
    have eT : it = .ref T := rv
    subst eT
    obtain ⟨us, ru, tp, _⟩ := I.tuple sq
    cases ru with
    | cons ru1 ru =>
      rename_i u us
      cases ru with
      | cons ru2 ru =>
        rename_i w us
        cases ru
        obtain ⟨tr, h1, h2, h3⟩ := pairs_lie I r p
        refine ⟨(kv.1, u, w) :: tr, .cons ⟨rfl, ru2⟩ h1, by rw [List.length_cons, List.length_cons, h2], fun j t e => ?_⟩
        cases j with
        | zero =>
          have e' : (kv.1, u, w) = t := Option.some.inj e
          subst e'
          exact ⟨rfl, .inl tp, kV_is ru1⟩
        | succ j => exact h3 j t e
/-- dict(pairs): a new dict -/
def dictV (kvs : List (Key × V)) : List (Key × V) := kvs.foldl (fun d kv => putK d kv.1 kv.2) []
def kDct (K : PySem.W.Frag) (x : V) (H : Hp) (Q : VK) : Prop := ∃ p xs kvs, x = .ref p ∧ SqL K H p xs ∧ Paired (PairV K H) xs kvs ∧ xs.length ≤ sizeLine ∧ ∀ q, H q = none → Q (.ref q) (upd H q (.dK (dictV kvs)))
theorem kv_fold : ∀ {kvs : List (Key × V)} {vs : List (Key × Value)} {d : List (Key × V)} {e : List (Key × Value)}, KV d e → KV kvs vs → KV (kvs.foldl (fun d kv => putK d kv.1 kv.2) d) (vs.foldl (fun d kv => stored d kv.1 kv.2) e)
  | _, _, _, _, h, .nil => h
  | _, _, _, _, h, .cons r t => by
    obtain ⟨r1, r2⟩ := r
    rw [List.foldl_cons, List.foldl_cons]
    refine kv_fold ?_ t
    rw [← r1]
    exact h.put _ r2
theorem dictV_len (kvs : List (Key × V)) : (dictV kvs).length ≤ kvs.length := by
  have main : ∀ (kvs d : List (Key × V)), (kvs.foldl (fun d kv => putK d kv.1 kv.2) d).length ≤ d.length + kvs.length := by
    intro kvs
    induction kvs with
    | nil => intro d; exact Nat.le_refl _
    | cons kv kvs ih =>
      intro d
      have h1 := ih (putK d kv.1 kv.2)
      have h2 := length_putK d kv.1 kv.2
      rw [List.foldl_cons, List.length_cons]
      omega
  have := main kvs []
  simpa [dictV] using this
theorem rl_dict (hc : X.calm = true) (x : V) (v : Value) (Q : VK) (I : L2.Inv X pins σ H s) (r : RelV x v) (h : kDct X.K x H Q) : wpAny (model X.prog X.w) X.A (call (.type "dict") [v]) (EP X pins σ Q) X.xe s := by
  obtain ⟨p, xs, kvs, rfl, sq, pr, z, q⟩ := h
  obtain rfl : v = .ref p := r
  obtain ⟨its, rv, pl, _⟩ := I.list sq
  obtain ⟨tr, h1, h2, h3⟩ := pairs_lie I rv pr
  have hlen : xs.length = its.length := rv.length
  have hkl : kvs.length = tr.length := by
    have := h1.length
    rwa [List.length_map] at this
  have P := PairArg.list (prog := X.prog) (w := X.w) p its.toArray (addrAt its) (tr.map fun t => (t.2.1, t.2.2))
  refine call_dict_pairs (knd := mixKind X.prog X.w) (kvs := tr.map fun t => (t.1, t.2.2)) P (I.ok.hd hc) ⟨pl, by simp [h2], fun j k v e => ?_⟩ ⟨by simp, fun j k v e => ?_⟩ (by rw [List.length_map]; omega) fun h' tk hd hk => ?_
  · rw [List.getElem?_map] at e
    obtain ⟨t, et, e2⟩ := Option.map_eq_some_iff.mp e
    obtain ⟨a1, a2, _⟩ := h3 j t et
    cases e2
    exact ⟨by simpa using a1, a2⟩
  · have e' : (tr.map fun t => (t.2.1, t.2.2))[j]? = some (k, v) := e
    rw [List.getElem?_map] at e'
    obtain ⟨t, et, e2⟩ := Option.map_eq_some_iff.mp e'
    obtain ⟨_, _, a3⟩ := h3 j t et
    cases e2
    exact ⟨t.1, by rw [List.getElem?_map, et]; rfl, a3⟩
  · have hbig := I.big
    have kv : KV (dictV kvs) ((tr.map fun t => (t.1, t.2.2)).foldl (fun d kv => stored d kv.1 kv.2) []) := kv_fold .nil h1
    have new : ObjOk X.prog X.w (upd H s.heap.objs.size (.dK (dictV kvs))) h' s.heap.objs.size (.dK (dictV kvs)) :=
      ⟨by have := dictV_len kvs; omega, beq_eq_false_iff_ne.mpr (Nat.ne_of_gt hbig), _, kv, hd⟩
    exact ⟨.ref s.heap.objs.size, _, I.laid (fun b o e => hk b o (fun z => nomatch z) e) (Nat.le_refl _) new, rfl, q _ (I.hok.fresh (Nat.le_refl _))⟩
theorem pe_dictOf {a : Expr} {ta : TE} {p pos : Pos} (hc : X.calm = true) (hg : Gl X "dict") (hm : X.mg "dict" = none) (ha : PE X a ta) (na : starEach [a] X.env = (false, eval a X.env) :: starEach [] X.env := by rfl) :
    PE X (.Call (.Name "dict" p) [a] [] pos) (tThen ta (kDct X.K)) := by
  refine ⟨fun pins s σ H Q I h => ?_⟩
  exact Call_ (ld_blt I hg hm PyProof.Rows.boot_dict (PyProof.Rows.callWith_type1 (one_arg ha I h (fun v s2 x H2 I2 r q => rl_dict hc x v Q I2 r q) na) na))
end
/-! ### dicts of ints as maps -/
def mapOf (xs : List (Int × Int)) : Int → Option Int := xs.foldl (fun g p => fun k => if k = p.1 then some p.2 else g k) (fun _ => none)
def MapV (kvs : List (Key × V)) (g : Int → Option Int) : Prop := ∀ k : Int, valV kvs (.inl k) = (g k).map V.int
theorem mapV_of (xs : List (Int × Int)) : MapV (dictV (xs.map fun p => (.inl p.1, .int p.2))) (mapOf xs) := by
  have main : ∀ (xs : List (Int × Int)) (d : List (Key × V)) (g : Int → Option Int), MapV d g → MapV ((xs.map fun p => ((.inl p.1, .int p.2) : Key × V)).foldl (fun d kv => putK d kv.1 kv.2) d) (xs.foldl (fun g p => fun k => if k = p.1 then some p.2 else g k) g) := by
    intro xs
    induction xs with
    | nil => intro d g h; exact h
    | cons p xs ih =>
      intro d g h
      rw [List.map_cons, List.foldl_cons, List.foldl_cons]
      refine ih _ _ fun k => ?_
      rw [valV_put]
      by_cases e : k = p.1
      · rw [if_pos (by rw [e]), if_pos e]; rfl
      · rw [if_neg (fun z => e (Sum.inl.inj z)), if_neg e]; exact h k
  exact main xs [] (fun _ => none) fun _ => rfl
section
variable {K : PySem.W.Frag}
abbrev tMap (K : PySem.W.Frag) : Ty K := ⟨Int → Option Int, fun F v g => ∃ a kvs, v = .ref a ∧ F a = some (.dK kvs) ∧ MapV kvs g, fun h ⟨a, kvs, e, q, p⟩ => ⟨a, kvs, e, h _ _ q, p⟩⟩
abbrev oMap (K : PySem.W.Frag) : OTy K where
  τ := tMap K
  own := fun _ u g => ∃ kvs, u = .dK kvs ∧ MapV kvs g
  mono := fun _ h => h
  frz := fun ⟨kvs, e, h⟩ hf => ⟨_, kvs, rfl, e ▸ hf, h⟩
  obj := fun ⟨kvs, e, _⟩ xs z => by rw [e] at z; cases z
theorem pair_rep {F H : Hp} (sm : Same F H) : ∀ {vs : List V} {xs : List (Int × Int)}, Paired ((tTp [tInt K, tInt K]).rep F) vs xs → Paired (PairV K H) vs (xs.map fun p => ((.inl p.1, .int p.2) : Key × V))
  | _, _, .nil => .nil
  | _, _, .cons (b := x) r t => by
    refine .cons ?_ (pair_rep sm t)
    obtain ⟨a, ws, e, q, r2⟩ := r
    obtain ⟨v1, rest, e2, e3, v2, e4, e5⟩ := r2
    refine ⟨a, e, .inl (.inl ?_)⟩
    rw [sm _ _ q, e2, e4, show v1 = V.int x.1 from e3, show v2 = V.int x.2 from e5]
    rfl
end
section
variable {K : PySem.W.Frag} {X : Cx} {S : Type} {Δ Δ1 Δ2 : Ctx K S} {e a b : Expr} {pos px : Pos} {ms m1 m2 : List Nat} {c1 c2 : List (S → Prop)} {ta tb : TE} {k : Nat}
theorem DO.dictOf {f : S → List (Int × Int)} (hm : X.mg "dict" = none) (he : DX K X Δ e (tList (tTp [tInt K, tInt K])) ms c1 Δ1 f ta) (hK : X.K = K := by rfl) (hc : X.calm = true := by rfl) (hg : Gl X "dict" := by rfl) (hs : starEach [e] X.env = (false, eval e X.env) :: starEach [] X.env := by rfl) :
    DO K X Δ (.Call (.Name "dict" px) [e] [] pos) (oMap K) ms c1 Δ1 (fun s => mapOf (f s)) (tThen ta (kDct K)) := by
  subst hK
  obtain ⟨d1, p, r⟩ := he
  refine ⟨d1, pe_dictOf hc hg hm p hs, fun s F H σ hh sm hcj Q q => ?_⟩
  refine r s F H σ hh sm hcj _ fun v F1 H1 g1 hh1 ⟨a, vs, ev, sq, pr, z⟩ => ⟨a, vs, _, ev, .inl (.inl (g1.fh _ _ sq)), pair_rep g1.fh pr, by rw [pr.length]; exact z, fun l n => ?_⟩
  have ow : (oMap X.K).own F1 (.dK (dictV ((f s).map fun p => (.inl p.1, .int p.2)))) (mapOf (f s)) := ⟨_, rfl, mapV_of _⟩
  obtain ⟨g3, fn, e3⟩ := own_of_new (ω := oMap X.K) g1.fh n ow
  exact q l _ F1 _ (g1.trans g3.of0) (hh1.grow g3) (g1.dom l n) fn e3 ow
/-- d[k] -/
theorem DX.getM {g : S → Int → Option Int} {f : S → Int} (hr : Room k X.A) (ha : DX K X Δ a (tMap K) m1 c1 Δ1 g ta) (hb : DX K X Δ1 b (tInt K) m2 c2 Δ2 f tb) (hs : NoSl b := by exact fun _ _ => rfl) : DX K X Δ (.Subscript a b pos) (tInt K) (m1 ++ m2) (c1 ++ (c2 ++ [fun s => (g s (f s)).isSome = true])) Δ2 (fun s => (g s (f s)).getD 0) (tDGet ta tb) := by
  obtain ⟨d1, p1, r1⟩ := ha
  obtain ⟨d2, p2, r2⟩ := hb
  refine ⟨d1.trans d2, pe_dget (by have := hr.un; omega) p1 p2 hs, fun s F H σ hh sm hc Q q => ?_⟩
  obtain ⟨k1, k2⟩ := conj_app hc
  obtain ⟨k2, k3, _⟩ := conj_app k2
  refine r1 s F H σ hh sm k1 _ fun v F1 H1 g1 hh1 ⟨d, kvs, ev, hd, mv⟩ => r2 s F1 H1 σ hh1 g1.fh k2 _ fun w F2 H2 g2 hh2 e2 => ?_
  obtain ⟨y, ey⟩ := Option.isSome_iff_exists.mp k3
  refine ⟨d, .int y, ev, ?_, ?_⟩
  · have := DGet.k (k := (.inl (f s) : Key)) (g2.fh _ _ (g2.ff _ _ hd))
    rw [mv, ey] at this
    rw [show w = kV (.inl (f s)) from e2]
    exact this
  · exact q _ F2 H2 ((g1.mono (msAt_l (m2 := m2))).trans (g2.mono (msAt_r (m1 := m1)))) hh2 (show V.int y = V.int ((g s (f s)).getD 0) by rw [ey]; rfl)
end
end Dx

/-! Dx, part f: a, b = list; for x in (a, b). -/
namespace Dx
open PySem PySem.Spec PyProof PyProof.Rows L2
section
variable {K : PySem.W.Frag}
/-- a list of known length -/
abbrev tLs (ts : List (Ty K)) : Ty K := ⟨HL ts, fun F v x => ∃ a vs, v = .ref a ∧ F a = some (.lst vs) ∧ RepAll F ts vs x, fun h ⟨a, vs, e, q, r⟩ => ⟨a, vs, e, h _ _ q, r.mono h⟩⟩
end
section
variable {K : PySem.W.Frag} {X : Cx} {S : Type} {Δ Δ1 : Ctx K S} {e tg : Expr} {pos : Pos} {τ : Ty K} {ts : List (Ty K)} {ms : List Nat} {c1 : List (S → Prop)} {ta : TE}
theorem DX.asL2 (d : τ.α) {f : S → List τ.α} (he : DX K X Δ e (tList τ) ms c1 Δ1 f ta) : DX K X Δ e (tLs [τ, τ]) ms (c1 ++ [fun s => (f s).length = 2]) Δ1 (fun s => (ixI d (f s) 0, ixI d (f s) 1)) ta :=
  ⟨he.1, he.2.1, fun s F H σ hh sm hc Q q => by
    obtain ⟨k1, k2, _⟩ := conj_app hc
    refine he.2.2 s F H σ hh sm k1 Q fun v F1 H1 g hh1 ⟨a, vs, ev, sq, pr, z⟩ => ?_
    obtain ⟨x, y, exy⟩ : ∃ x y, f s = [x, y] := by
      match h : f s, k2 with
      | [x, y], _ => exact ⟨x, y, rfl⟩
    have e0 : ixI d (f s) 0 = x := by rw [exy]; rfl
    have e1 : ixI d (f s) 1 = y := by rw [exy]; rfl
    rw [exy] at pr
    cases pr with
    | cons r1 t =>
      cases t with
      | cons r2 t =>
        cases t
        exact q v F1 H1 g hh1 ⟨a, _, ev, sq, _, _, rfl, show τ.rep F1 _ (ixI d (f s) 0) from e0.symm ▸ r1, _, rfl, show τ.rep F1 _ (ixI d (f s) 1) from e1.symm ▸ r2⟩⟩
theorem DG.lstT {es : List Expr} {k : Nat} {h : S → HL ts} {gs : TGs} {is : List Nat} (hb : DGs K X Δ es ts h is Δ1 gs) (hc : X.calm = true := by rfl) (hn : (assignEach es X.env).length = ts.length := by rfl) (hst : (assignEach es X.env).findIdx? (·.1) = none := by rfl) (hK : X.K = K := by rfl) : DG K X Δ (.Tuple es k pos) (tLs ts) h is Δ1 (gLst K ts.length gs) := by
  subst hK
  exact ⟨hb.1, pg_lst hc hb.2.1 hn hst, fun s F H σ v hh sm ⟨a, vs, ev, q1, r⟩ Q q => ⟨a, vs, ev, .inl (.inl (sm _ _ q1)), r.length, hb.2.2 s F H σ vs hh sm r Q q⟩⟩
/-- (a, b) as a tuple of any length -/
theorem DX.asSeq2 {f : S → τ.α × τ.α} (he : DX K X Δ e (tTp [τ, τ]) ms c1 Δ1 f ta) : DX K X Δ e (tSeq τ) ms c1 Δ1 (fun s => [(f s).1, (f s).2]) ta :=
  ⟨he.1, he.2.1, fun s F H σ hh sm hc Q q => he.2.2 s F H σ hh sm hc Q fun v F1 H1 g hh1 ⟨a, vs, ev, sq, r⟩ => by
    obtain ⟨v1, rest, e1, r1, v2, e2, r2⟩ := r
    subst e1 e2
    have := sizeLine_eq
    exact q v F1 H1 g hh1 ⟨a, _, ev, sq, .cons r1 (.cons r2 .nil), by show 2 ≤ sizeLine; omega⟩⟩
theorem DI.seqT {f : S → List τ.α} (he : DX K X Δ e (tSeq τ) ms c1 Δ1 f ta) (hK : X.K = K := by rfl) : DI K X Δ tg e τ ms c1 Δ1 f (iTup K ta) := by
  subst hK
  obtain ⟨d1, p, r⟩ := he
  refine ⟨d1, pi_tup p, fun s F H σ hh sm hc R q => r s F H σ hh sm hc _ fun v F1 H1 g1 hh1 ⟨a, vs, ev, sq, pr, z⟩ => ?_⟩
  exact ⟨a, ev, ⟨vs, sqt g1.fh sq⟩, q _ F1 H1 g1 hh1 (walks_tup (sqt (Same.refl F1) sq) pr z)⟩
end
end Dx

/-! Dx, part g: a comprehension in a comprehension. -/
namespace Dx
open PySem PySem.Spec PyProof PyProof.Rows L2
theorem blkOk_in {X : Cx} {s : Shared} {H : Hp} {scope scope2 sc : Scope} {cl : List (Str × Addr)} {C : Addr} {fp : List Addr} {N : List Str} {own : List (Str × Nat)} (hN : X.N = N) (hs : X.env.scope = sc) (h : blkC N (relS scope sc) scope2 own = true) :
    BlkOk (X.blk s H scope (compEnvC scope cl C X.env) fp).N (X.blk s H scope (compEnvC scope cl C X.env) fp).env.scope scope2 own := by
  have e : (X.blk s H scope (compEnvC scope cl C X.env) fp).env.scope = relS scope X.env.scope := rfl
  rw [e, hs]
  show BlkOk X.N _ _ _
  rw [hN]
  exact blkOk_by h
end Dx

/-! Dx, part h: the rest of a body by cases; a rest that is not reached; None as data or None. -/
namespace Dx
open PySem PySem.Spec PyProof PyProof.Rows L2
section
variable {K : PySem.W.Frag} {X : Cx} {S R : Type} {Δ Δ1 : Ctx K S} {sts : List Stmt} {e : Expr} {τ : Ty K} {ms : List Nat} {c1 c2 : List (S → Prop)} {ta : TE} {fm : Fm K R}
/-- the rest by cases -/
theorem DR.byCases (h : S → Bool) {f g : S → R} (a : DR K X fm Δ sts c1 f) (b : DR K X fm Δ sts c2 g) : DR K X fm Δ sts [fun s => if h s = true then Conj c1 s else Conj c2 s] (fun s => if h s = true then f s else g s) := by
  obtain ⟨t1, p1, q1⟩ := a
  obtain ⟨t2, p2, q2⟩ := b
  refine ⟨fun D σ H => t1 D σ H ∨ t2 D σ H, ⟨fun pins s σ H D I z => z.elim (fun z => p1.1 pins s σ H D I z) fun z => p2.1 pins s σ H D I z⟩, fun s F H σ hh sm hc D q => ?_⟩
  have hc : if h s = true then Conj c1 s else Conj c2 s := hc.1
  by_cases z : h s = true
  · rw [if_pos z] at hc
    refine .inl (q1 s F H σ hh sm hc D ?_)
    have e : (if h s = true then f s else g s) = f s := if_pos z
    have q : Ret fm Δ σ F H (if h s = true then f s else g s) D.rt := q
    rw [e] at q
    exact q
  · rw [if_neg z] at hc
    refine .inr (q2 s F H σ hh sm hc D ?_)
    have e : (if h s = true then f s else g s) = g s := if_neg z
    have q : Ret fm Δ σ F H (if h s = true then f s else g s) D.rt := q
    rw [e] at q
    exact q
theorem nv_lst {F : Hp} {v : V} {x : (tList τ).α} (r : (tList τ).rep F v x) : v ≠ .non := fun z => by
  obtain ⟨a, vs, e, _⟩ := r
  rw [z] at e; cases e
/-- None is data or None -/
theorem DX.ofNone {f : S → Unit} (he : DX K X Δ e (tNone K) ms c1 Δ1 f ta) : DX K X Δ e (tOpt τ) ms c1 Δ1 (fun _ => none) ta :=
  ⟨he.1, he.2.1, fun s F H σ hh sm hc Q q => he.2.2 s F H σ hh sm hc Q fun v F1 H1 g hh1 r => q v F1 H1 g hh1 r⟩
end
end Dx

/-! Dx, part i: and, or with effects behind as a value; x in a list of data; the end of a tuple. -/
namespace Dx
open PySem PySem.Spec PyProof PyProof.Rows L2
section
variable {K : PySem.W.Frag} {X : Cx} {S : Type} {Δ Δ1 Δ2 Δ3 : Ctx K S} {a b : Expr} {rest : List Expr} {pos p2 : Pos} {τ : Ty K} {ω : OTy K} {m1 m2 ms : List Nat} {c1 c2 c3 : List (S → Prop)} {ta tb : TE}
theorem DX.andE (i : Nat) {f g : S → Bool} {f0 f1 : S → ω.τ.α} (ha : DX K X Δ a (tBool K) m1 c1 Δ1 f ta) (hb : DX K X Δ1 (.BoolOp .And (b :: rest) pos) (tBool K) m2 c2 Δ2 g tb) (h0 : Δ1[i]? = some (.ow ω f0)) (e2 : Δ2 = Δ1.set i (.ow ω f1)) (h2 : ∀ k ∈ m2, k = i) :
    DX K X Δ (.BoolOp .And (a :: b :: rest) pos) (tBool K) (m1 ++ [i]) (c1 ++ guardT f c2) (Δ1.set i (.ow ω fun s => if f s = true then f1 s else f0 s)) (fun s => f s && g s) (tAndV ta tb) := by
  subst e2
  obtain ⟨d1, p1, r1⟩ := ha
  obtain ⟨d2, p2, r2⟩ := hb
  have hl : i < Δ1.length := (List.getElem?_eq_some_iff.mp h0).1
  refine ⟨d1.trans (diff_mut h0), pe_and p1 p2, fun s F H σ hh sm hc Q q => ?_⟩
  obtain ⟨k1, k2⟩ := conj_app hc
  refine r1 s F H σ hh sm k1 _ fun v F1 H1 g1 hh1 rv => ⟨f s, rv, ?_⟩
  cases e : f s with
  | false =>
    exact q _ F1 H1 (g1.mono (msAt_l (m2 := [i]))) (holds_sel (f := f) (f1 := f1) (f2 := f0) (g := f0) hl (by rw [e]; rfl) (by rw [set_self1 h0]; exact hh1)) (by simp only [e, Bool.false_and])
  | true =>
    show tb σ H1 Q
    refine r2 s F1 H1 σ hh1 g1.fh (guardT_conj e k2) Q fun v2 F2 H2 g2 hh2 rv2 => ?_
    exact q v2 F2 H2 ((g1.mono (msAt_l (m2 := [i]))).trans ((g2.mono (ms_one h2)).mono (msAt_r (m1 := m1)))) (holds_sel (f := f) (f1 := f1) (f2 := f0) (g := f1) hl (by rw [e]; rfl) hh2) (by simp only [e, Bool.true_and]; exact rv2)
theorem DX.orE (i : Nat) {f g : S → Bool} {f0 f1 : S → ω.τ.α} (ha : DX K X Δ a (tBool K) m1 c1 Δ1 f ta) (hb : DX K X Δ1 (.BoolOp .Or (b :: rest) pos) (tBool K) m2 c2 Δ2 g tb) (h0 : Δ1[i]? = some (.ow ω f0)) (e2 : Δ2 = Δ1.set i (.ow ω f1)) (h2 : ∀ k ∈ m2, k = i) :
    DX K X Δ (.BoolOp .Or (a :: b :: rest) pos) (tBool K) (m1 ++ [i]) (c1 ++ guardF f c2) (Δ1.set i (.ow ω fun s => if f s = true then f0 s else f1 s)) (fun s => f s || g s) (tOrV ta tb) := by
  subst e2
  obtain ⟨d1, p1, r1⟩ := ha
  obtain ⟨d2, p2, r2⟩ := hb
  have hl : i < Δ1.length := (List.getElem?_eq_some_iff.mp h0).1
  refine ⟨d1.trans (diff_mut h0), pe_or p1 p2, fun s F H σ hh sm hc Q q => ?_⟩
  obtain ⟨k1, k2⟩ := conj_app hc
  refine r1 s F H σ hh sm k1 _ fun v F1 H1 g1 hh1 rv => ⟨f s, rv, ?_⟩
  cases e : f s with
  | true =>
    exact q _ F1 H1 (g1.mono (msAt_l (m2 := [i]))) (holds_sel (f := f) (f1 := f0) (f2 := f1) (g := f0) hl (by rw [e]; rfl) (by rw [set_self1 h0]; exact hh1)) (by simp only [e, Bool.true_or])
  | false =>
    show tb σ H1 Q
    refine r2 s F1 H1 σ hh1 g1.fh (guardF_conj e k2) Q fun v2 F2 H2 g2 hh2 rv2 => ?_
    exact q v2 F2 H2 ((g1.mono (msAt_l (m2 := [i]))).trans ((g2.mono (ms_one h2)).mono (msAt_r (m1 := m1)))) (holds_sel (f := f) (f1 := f0) (f2 := f1) (g := f1) hl (by rw [e]; rfl) hh2) (by simp only [e, Bool.false_or]; exact rv2)
/-! #### x in a list of data -/
def memD {α : Type} (d : DF α) (x : α) (xs : List α) : Bool := xs.any fun z => d.eq z x
theorem mem_any {α : Type} {d : DF α} (h : PlainD d) (x : α) (xs : List α) : ((xs.map d.toD).any fun z => PyData.eqv z (d.toD x)) = memD d x xs := by
  unfold memD
  rw [List.any_map]
  congr 1
  funext z
  exact h.eqv z x
theorem r2_inD {d : DF τ.α} (h : Dat τ d) (hn : d.n ≤ 63) : R2ok K (rInD K) τ (tList τ) (tBool K) [] (fun x y => memD d x y) := fun x y v u F H sm r1 r2 _ Q q => by
  have h2 := dat_list h
  have lo : ∀ {z w}, τ.rep F w z → Dp K H w (d.toD z) ∧ SeqAt.shaped (d.toD z) = true := fun {z w} r => ⟨h.dp (τ.mono sm r), by
    unfold SeqAt.shaped
    rw [h.lay r, Bool.true_and]
    exact decide_eq_true (Nat.le_trans (h.pl.dep z) (by omega))⟩
  have lo2 : ∀ {z w}, (tList τ).rep F w z → Dp K H w ((dfList d).toD z) ∧ SeqAt.shaped ((dfList d).toD z) = true := fun {z w} r => ⟨h2.dp ((tList τ).mono sm r), by
    unfold SeqAt.shaped
    rw [h2.lay r, Bool.true_and]
    exact decide_eq_true (Nat.le_trans (h2.pl.dep z) (by show d.n + 1 ≤ 64; omega))⟩
  exact ⟨_, _, (lo r1).1, (lo2 r2).1, (lo r1).2, (lo2 r2).2, by rw [mem_any h.pl]; exact q _ F H (Gr.refl sm) rfl⟩
section
variable {k : Nat} {d : DF τ.α} {ga : S → τ.α} {gb : S → List τ.α}
theorem DX.inDt (hr : RoomG k X.A) (h : Dat τ d) (ha : DX K X Δ a τ m1 c1 Δ1 ga ta) (hb : DX K X Δ1 b (tList τ) m2 c2 Δ2 gb tb) (hn : d.n ≤ 63 := by decide) (hK : X.K = K := by rfl) (hmk : behindInMarks .In b = false := by with_unfolding_all rfl) : DX K X Δ (.Compare a [.In] [b] pos) (tBool K) (m1 ++ m2) (c1 ++ (c2 ++ [])) Δ2 (fun s => memD d (ga s) (gb s)) (tOp (rInD K) ta tb) := by
  subst hK
  exact DX.bin (r2_inD h hn) ha hb fun p q => pe_cmpR (op_inD (by have := hr.rm.un; omega)) p q hmk
theorem DT.inDt (hr : RoomG k X.A) (h : Dat τ d) (ha : DX K X Δ a τ m1 c1 Δ1 ga ta) (hb : DX K X Δ1 b (tList τ) m2 c2 Δ2 gb tb) (hn : d.n ≤ 63 := by decide) (hK : X.K = K := by rfl) (hmk : behindInMarks .In b = false := by with_unfolding_all rfl) : DT K X Δ (.Compare a [.In] [b] pos) (m1 ++ m2) (c1 ++ (c2 ++ [])) Δ2 (fun s => memD d (ga s) (gb s)) (tTest (tOp (rInD K) ta tb)) := by
  subst hK
  exact DT.bin (r2_inD h hn) ha hb fun p q => pt_cmpR (op_inD (by have := hr.rm.un; omega)) p q hmk
end
theorem n63 {α : Type} {d : DF α} {m : Nat} (h : d.n = m) (h2 : m ≤ 63 := by decide) : d.n ≤ 63 := h ▸ h2
/-! #### a == b == c -/
section
variable {k : Nat} {d : DF τ.α} {fa fb fc : S → τ.α} {tc : TE} {c : Expr}
theorem chainEq_sem (h : Dat τ d) (hn : d.n ≤ 64) (ha : DX K X Δ a τ m1 c1 Δ1 fa ta) (hb : DX K X Δ1 b τ m2 c2 Δ2 fb tb) (hc : DX K X Δ2 c τ [] c3 Δ2 fc tc) :
    ∀ s F H σ, Holds Δ s F H σ → Same F H → Conj (c1 ++ (c2 ++ guardT (fun s => d.eq (fa s) (fb s)) c3)) s → ∀ Q : VK, (∀ F' H', Gr (MsAt (m1 ++ m2) σ) F H F' H' → Holds Δ2 s F' H' σ → Q (.bl (d.eq (fa s) (fb s) && d.eq (fb s) (fc s))) H') → tChain (rEqD K) (rEqD K) ta tb tc σ H Q := by
  obtain ⟨d1, p1, r1⟩ := ha
  obtain ⟨d2, p2, r2⟩ := hb
  obtain ⟨d3, p3, r3⟩ := hc
  intro s F H σ hh sm hcs Q q
  obtain ⟨k1, k2⟩ := conj_app hcs
  obtain ⟨k2, k3⟩ := conj_app k2
  refine r1 s F H σ hh sm k1 _ fun v F1 H1 g1 hh1 e1 => r2 s F1 H1 σ hh1 g1.fh k2 _ fun w F2 H2 g2 hh2 e2 => ?_
  have g12 := (g1.mono (msAt_l (m2 := m2))).trans (g2.mono (msAt_r (m1 := m1)))
  refine r2_eqD h hn (fa s) (fb s) v w F2 H2 g2.fh (τ.mono g2.ff e1) e2 trivial _ fun z F3 H3 g3 ez => ?_
  have ez : z = .bl (d.eq (fa s) (fb s)) := ez
  subst ez
  have hh3 := hh2.grow g3
  refine ⟨d.eq (fa s) (fb s), rfl, ?_⟩
  cases e : d.eq (fa s) (fb s) with
  | false =>
    rw [if_neg (by decide)]
    have := q F3 H3 (g12.trans g3.of0) hh3
    rw [e] at this
    exact this
  | true =>
    rw [if_pos rfl]
    refine r3 s F3 H3 σ hh3 g3.fh (guardT_conj (g := fun s => d.eq (fa s) (fb s)) e k3) _ fun z F4 H4 g4 hh4 e4 => ?_
    rw [msAt_nil] at g4
    refine r2_eqD h hn (fb s) (fc s) w z F4 H4 g4.fh (τ.mono (g3.ff.trans g4.ff) e2) e4 trivial _ fun y F5 H5 g5 ey => ?_
    have ey : y = .bl (d.eq (fb s) (fc s)) := ey
    subst ey
    have := q F5 H5 (((g12.trans g3.of0).trans g4.of0).trans g5.of0) (hh4.grow g5)
    rw [e] at this
    exact this
theorem DX.chainEq (hr : RoomG k X.A) (h : Dat τ d) (ha : DX K X Δ a τ m1 c1 Δ1 fa ta) (hb : DX K X Δ1 b τ m2 c2 Δ2 fb tb) (hc : DX K X Δ2 c τ [] c3 Δ2 fc tc) (hn : d.n ≤ 64 := by decide) (hK : X.K = K := by rfl) (hm : lastMarks [.Eq, .Eq] [b, c] = false := by with_unfolding_all rfl) :
    DX K X Δ (.Compare a [.Eq, .Eq] [b, c] pos) (tBool K) (m1 ++ m2) (c1 ++ (c2 ++ guardT (fun s => d.eq (fa s) (fb s)) c3)) Δ2 (fun s => d.eq (fa s) (fb s) && d.eq (fb s) (fc s)) (tChain (rEqD K) (rEqD K) ta tb tc) := by
  subst hK
  exact ⟨ha.1.trans hb.1, pe_chain (op_eqD hr.rm.units) (op_eqD hr.rm.units) ha.2.1 hb.2.1 hc.2.1 hm, fun s F H σ hh sm hcs Q q => chainEq_sem h hn ha hb hc s F H σ hh sm hcs Q fun F1 H1 g1 hh1 => q _ F1 H1 g1 hh1 rfl⟩
theorem DT.chainEq (hr : RoomG k X.A) (h : Dat τ d) (ha : DX K X Δ a τ m1 c1 Δ1 fa ta) (hb : DX K X Δ1 b τ m2 c2 Δ2 fb tb) (hc : DX K X Δ2 c τ [] c3 Δ2 fc tc) (hn : d.n ≤ 64 := by decide) (hK : X.K = K := by rfl) (hm : lastMarks [.Eq, .Eq] [b, c] = false := by with_unfolding_all rfl) :
    DT K X Δ (.Compare a [.Eq, .Eq] [b, c] pos) (m1 ++ m2) (c1 ++ (c2 ++ guardT (fun s => d.eq (fa s) (fb s)) c3)) Δ2 (fun s => d.eq (fa s) (fb s) && d.eq (fb s) (fc s)) (tTest (tChain (rEqD K) (rEqD K) ta tb tc)) := by
  subst hK
  exact ⟨ha.1.trans hb.1, pt_chain (op_eqD hr.rm.units) (op_eqD hr.rm.units) ha.2.1 hb.2.1 hc.2.1 hm, fun s F H σ hh sm hcs Q q => chainEq_sem h hn ha hb hc s F H σ hh sm hcs _ fun F1 H1 g1 hh1 => ⟨_, rfl, q F1 H1 g1 hh1⟩⟩
end
/-! #### the end of a tuple -/
theorem DX.cut2 {t1 t2 t3 t4 : Ty K} {lo hi : Option Expr} {flo fhi : S → Option Int} {tlo thi : TO} {f : S → HL [t1, t2, t3, t4]} (ha : DX K X Δ a (tTp [t1, t2, t3, t4]) m1 c1 Δ1 f ta) (h1 : DPo K X Δ1 lo m2 c2 Δ2 flo tlo) (h2 : DPo K X Δ2 hi ms c3 Δ3 fhi thi) (e1 : ∀ s, flo s = some 2) (e2 : ∀ s, fhi s = none) (hK : X.K = K := by rfl) :
    DX K X Δ (.Subscript a (.Slice lo hi none p2) pos) (tTp [t3, t4]) (m1 ++ (m2 ++ ms)) (c1 ++ (c2 ++ c3)) Δ3 (fun s => (f s).2.2) (tSl (rSlT K) ta tlo thi) := by
  subst hK
  obtain ⟨d1, p1, r1⟩ := ha
  obtain ⟨d2, q2, r2⟩ := h1
  obtain ⟨d3, q3, r3⟩ := h2
  refine ⟨d1.trans (d2.trans d3), pe_slice sl_tup p1 q2 q3, fun s F H σ hh sm hc Q q => ?_⟩
  obtain ⟨k1, k2⟩ := conj_app hc
  obtain ⟨k2, k3⟩ := conj_app k2
  refine r1 s F H σ hh sm k1 _ fun v F1 H1 g1 hh1 w1 => r2 s F1 H1 σ hh1 g1.fh k2 _ fun F2 H2 g2 hh2 => r3 s F2 H2 σ hh2 g2.fh k3 _ fun F3 H3 g3 hh3 => ?_
  obtain ⟨p, vs, ev, sq, pr⟩ := (tTp [t1, t2, t3, t4]).mono (g2.ff.trans g3.ff) w1
  obtain ⟨v1, q1, z1, _, v2, q2', z2, _, v3, q3', z3, rc, v4, z4, rd⟩ := pr
  subst z4 z3 z2 z1
  have ef : flo s = some 2 := e1 s
  have eh : fhi s = none := e2 s
  rw [ef, eh]
  refine ⟨p, [v1, v2, v3, v4], ev, .inl (.inl (g3.fh _ _ sq)), fun z => absurd (show HT.sIx 4 0 (some 2) = 0 from z.1) (by decide), fun pn n => ?_⟩
  have ec : cutV [v1, v2, v3, v4] (some 2) none = [v3, v4] := rfl
  rw [ec]
  have g4 : Gr No F3 H3 (upd F3 pn (.tup [v3, v4])) (upd H3 pn (.tup [v3, v4])) := Gr.new g3.fh n
  have g12 := (g1.mono (msAt_l (m2 := m2 ++ ms))).trans ((g2.mono (fun a h => msAt_r (m1 := m1) a (msAt_l (m2 := ms) a h))).trans (g3.mono fun a h => msAt_r (m1 := m1) a (msAt_r (m1 := m2) a h)))
  exact q _ _ _ (g12.trans g4.of0) (hh3.grow g4) ⟨pn, [v3, v4], rfl, upd_same, v3, [v4], rfl, t3.mono g4.ff rc, v4, rfl, t4.mono g4.ff rd⟩
end
end Dx

/-! Dx, part j: x not in a list of data. -/
namespace Dx
open PySem PySem.Spec PyProof PyProof.Rows L2
section
variable {K : PySem.W.Frag} {X : Cx} {S : Type} {Δ Δ1 Δ2 Δ3 : Ctx K S} {a b : Expr} {rest : List Expr} {pos p2 : Pos} {τ : Ty K} {ω : OTy K} {m1 m2 ms : List Nat} {c1 c2 c3 : List (S → Prop)} {ta tb : TE}
theorem r2_ninD {d : DF τ.α} (h : Dat τ d) (hn : d.n ≤ 63) : R2ok K (rNotInD K) τ (tList τ) (tBool K) [] (fun x y => !memD d x y) := fun x y v u F H sm r1 r2 _ Q q => by
  have h2 := dat_list h
  have lo : ∀ {z w}, τ.rep F w z → Dp K H w (d.toD z) ∧ SeqAt.shaped (d.toD z) = true := fun {z w} r => ⟨h.dp (τ.mono sm r), by
    unfold SeqAt.shaped
    rw [h.lay r, Bool.true_and]
    exact decide_eq_true (Nat.le_trans (h.pl.dep z) (by omega))⟩
  have lo2 : ∀ {z w}, (tList τ).rep F w z → Dp K H w ((dfList d).toD z) ∧ SeqAt.shaped ((dfList d).toD z) = true := fun {z w} r => ⟨h2.dp ((tList τ).mono sm r), by
    unfold SeqAt.shaped
    rw [h2.lay r, Bool.true_and]
    exact decide_eq_true (Nat.le_trans (h2.pl.dep z) (by show d.n + 1 ≤ 64; omega))⟩
  exact ⟨_, _, (lo r1).1, (lo2 r2).1, (lo r1).2, (lo2 r2).2, by rw [mem_any h.pl]; exact q _ F H (Gr.refl sm) rfl⟩
section
variable {k : Nat} {d : DF τ.α} {ga : S → τ.α} {gb : S → List τ.α}
theorem DX.ninDt (hr : RoomG k X.A) (h : Dat τ d) (ha : DX K X Δ a τ m1 c1 Δ1 ga ta) (hb : DX K X Δ1 b (tList τ) m2 c2 Δ2 gb tb) (hn : d.n ≤ 63 := by decide) (hK : X.K = K := by rfl) (hmk : behindInMarks .NotIn b = false := by with_unfolding_all rfl) : DX K X Δ (.Compare a [.NotIn] [b] pos) (tBool K) (m1 ++ m2) (c1 ++ (c2 ++ [])) Δ2 (fun s => !memD d (ga s) (gb s)) (tOp (rNotInD K) ta tb) := by
  subst hK
  exact DX.bin (r2_ninD h hn) ha hb fun p q => pe_cmpR (op_notInD (by have := hr.rm.un; omega)) p q hmk
theorem DT.ninDt (hr : RoomG k X.A) (h : Dat τ d) (ha : DX K X Δ a τ m1 c1 Δ1 ga ta) (hb : DX K X Δ1 b (tList τ) m2 c2 Δ2 gb tb) (hn : d.n ≤ 63 := by decide) (hK : X.K = K := by rfl) (hmk : behindInMarks .NotIn b = false := by with_unfolding_all rfl) : DT K X Δ (.Compare a [.NotIn] [b] pos) (m1 ++ m2) (c1 ++ (c2 ++ [])) Δ2 (fun s => !memD d (ga s) (gb s)) (tTest (tOp (rNotInD K) ta tb)) := by
  subst hK
  exact DT.bin (r2_ninD h hn) ha hb fun p q => pt_cmpR (op_notInD (by have := hr.rm.un; omega)) p q hmk
end
end
end Dx

/-! Dx, part k: while. -/
namespace Dx
open PySem PySem.Spec PyProof.Rows L2
/-- the turns of a while, at most n -/
def whileF {M : Type} (c : M → Bool) (step : M → M) : Nat → M → M
  | 0, m => m
  | n + 1, m => if c m = true then whileF c step n (step m) else m
def whileC {M : Type} (ct : M → Prop) (c : M → Bool) (cb : M → Prop) (step : M → M) : Nat → M → Prop
  | 0, _ => False
  | n + 1, m => ct m ∧ (c m = true → cb m ∧ whileC ct c cb step n (step m))
def whileR {M R : Type} (c : M → Bool) (r : M → Option R) (step : M → M) : Nat → M → Option R
  | 0, _ => none
  | n + 1, m => if c m = true then (match r m with | some v => some v | none => whileR c r step n (step m)) else none
def whileCr {M R : Type} (ct : M → Prop) (c : M → Bool) (cb : M → Prop) (r : M → Option R) (step : M → M) : Nat → M → Prop
  | 0, _ => False
  | n + 1, m => ct m ∧ (c m = true → cb m ∧ (r m = none → whileCr ct c cb r step n (step m)))
/-- more turns than any while here has -/
abbrev turns : Nat := 1000000
@[irreducible] def LoopW {M : Type} (c : M → Bool) (step : M → M) (m : M) : M := whileF c step turns m
@[irreducible] def LoopWR {M R : Type} (c : M → Bool) (r : M → Option R) (step : M → M) (m : M) : Option R := whileR c r step turns m
theorem LoopW_eq {M : Type} (c : M → Bool) (step : M → M) (m : M) : LoopW c step m = whileF c step turns m := by unfold LoopW; rfl
theorem LoopWR_eq {M R : Type} (c : M → Bool) (r : M → Option R) (step : M → M) (m : M) : LoopWR c r step m = whileR c r step turns m := by unfold LoopWR; rfl
section
variable {K : PySem.W.Frag} {X : Cx} {S M R : Type} {fm : Fm K R} {Δ : Ctx K S} {Δl : Ctx K (S × M)} {body : List Stmt} {c : Expr} {pos : Pos} {Δe : Ctx K ((S × M) × Unit)} {mus : List Nat} {ct cb : List ((S × M) × Unit → Prop)} {tx : TT} {init : S → M} {step : (S × M) × Unit → M} {h : (S × M) × Unit → Bool}
theorem DS.while_ (n : Nat) (h0 : Head init Δ Δl) (ht : DT K X (Δl.comap Prod.fst) c [] ct (Δl.comap Prod.fst) h tx) (hb : DN K X mus (Δl.comap Prod.fst) body cb Δe) (hk : Back step Δe Δl)
    (hp : PassesOwn (model X.prog X.w) X.A X.env X.xe := by exact PassesOwn.never) :
    DS K X mus Δ (.While c body [] pos) [fun s => whileC (fun m => Conj ct ((s, m), ())) (fun m => h ((s, m), ())) (fun m => Conj cb ((s, m), ())) (fun m => step ((s, m), ())) n (init s)] (Δl.comap fun s => (s, whileF (fun m => h ((s, m), ())) (fun m => step ((s, m), ())) n (init s))) := by
  obtain ⟨_, pt, rt⟩ := ht
  obtain ⟨tb, pb, rb⟩ := hb
  refine ⟨_, ps_while hp pt pb, fun s F H σ hh sm hcs D q => ?_⟩
  obtain ⟨k2, _⟩ := hcs
  have hl := (h0.as s).holds hh
  have gl : GrS mus Δ σ Δl σ F H F H := (GrS.refl sm).as (h0.as s)
  refine ⟨fun k σ' H' => ∃ m F', whileF (fun m => h ((s, m), ())) (fun m => step ((s, m), ())) k m = whileF (fun m => h ((s, m), ())) (fun m => step ((s, m), ())) n (init s) ∧ whileC (fun m => Conj ct ((s, m), ())) (fun m => h ((s, m), ())) (fun m => Conj cb ((s, m), ())) (fun m => step ((s, m), ())) k m ∧
    Holds Δl (s, m) F' H' σ' ∧ GrS mus Δ σ Δl σ' F H F' H', ⟨n, init s, F, rfl, k2, hl, gl⟩, ?_⟩
  rintro k σ' H' ⟨m, F', ef, ec, hh', g'⟩
  cases k with
  | zero => exact ec.elim
  | succ k =>
    have hh2 : Holds (Δl.comap Prod.fst) ((s, m), ()) F' H' σ' := comap_holds hh'
    refine rt ((s, m), ()) F' H' σ' hh2 g'.fh ec.1 _ fun F1 H1 g1 hh1 => ?_
    rw [msAt_nil] at g1
    have gA : GrS mus Δ σ Δl σ' F H F1 H1 := g'.grow g1
    have gB : GrS mus Δl σ' (Δl.comap Prod.fst : Ctx K ((S × M) × Unit)) σ' F1 H1 F1 H1 := ⟨⟨Same.refl F1, g1.fh, fun _ _ e => .inl e, fun _ _ e _ => e, fun _ e => e⟩, fun a z => .inl (comap_own.mp z), fun k _ => rfl⟩
    by_cases hc : h ((s, m), ()) = true
    · rw [if_pos hc]
      refine ⟨fun σ2 H2 => ∃ F2, Holds Δl (s, step ((s, m), ())) F2 H2 σ2 ∧ GrS mus Δ σ Δl σ2 F H F2 H2, fun σ2 H2 ⟨F2, y1, y2⟩ => ⟨k, Nat.lt_succ_self k, _, F2, ?_, (ec.2 hc).2, y1, y2⟩, ?_⟩
      · rw [← ef]
        show _ = if h ((s, m), ()) = true then _ else _
        rw [if_pos hc]
      · refine rb ((s, m), ()) F1 H1 σ' hh1 g1.fh (ec.2 hc).1 _ fun σ4 F4 H4 g4 hh4 => ?_
        exact ⟨F4, (hk.as ((s, m), ())).holds hh4, ((gA.trans gB).trans g4).as (hk.as ((s, m), ()))⟩
    · rw [if_neg hc]
      have ef' : m = whileF (fun m => h ((s, m), ())) (fun m => step ((s, m), ())) n (init s) := by
        rw [← ef]
        show m = if h ((s, m), ()) = true then _ else _
        rw [if_neg hc]
      have hl1 : Holds Δl (s, m) F1 H1 σ' := hh'.grow g1
      rw [ef'] at hl1
      exact q σ' F1 H1 (gA.shape (fun _ => Iff.rfl) fun a z => comap_own.mp z) (comap_holds (g := fun s => (s, whileF (fun m => h ((s, m), ())) (fun m => step ((s, m), ())) n (init s))) hl1)
theorem DSm.while_ (n : Nat) {r : (S × M) × Unit → Option R} (h0 : Head init Δ Δl) (ht : DT K X (Δl.comap Prod.fst) c [] ct (Δl.comap Prod.fst) h tx) (hb : DM K X fm (Δl.comap Prod.fst) body cb r Δe) (hk : Back step Δe Δl)
    (hp : PassesOwn (model X.prog X.w) X.A X.env X.xe := by exact PassesOwn.never) :
    DSm K X fm Δ (.While c body [] pos) [fun s => whileCr (fun m => Conj ct ((s, m), ())) (fun m => h ((s, m), ())) (fun m => Conj cb ((s, m), ())) (fun m => r ((s, m), ())) (fun m => step ((s, m), ())) n (init s)] (fun s => whileR (fun m => h ((s, m), ())) (fun m => r ((s, m), ())) (fun m => step ((s, m), ())) n (init s)) (Δl.comap fun s => (s, whileF (fun m => h ((s, m), ())) (fun m => step ((s, m), ())) n (init s))) := by
  obtain ⟨_, pt, rt⟩ := ht
  obtain ⟨tb, pb, rb⟩ := hb
  refine ⟨_, ps_while hp pt pb, fun s F H σ hh sm hcs D q1 q2 => ?_⟩
  obtain ⟨k2, _⟩ := hcs
  have hl := (h0.as s).holds hh
  have gl : GrS (musOf 0 fm.ps) Δ σ Δl σ F H F H := (GrS.refl sm).as (h0.as s)
  refine ⟨fun k σ' H' => ∃ m F', whileF (fun m => h ((s, m), ())) (fun m => step ((s, m), ())) k m = whileF (fun m => h ((s, m), ())) (fun m => step ((s, m), ())) n (init s) ∧ whileR (fun m => h ((s, m), ())) (fun m => r ((s, m), ())) (fun m => step ((s, m), ())) k m = whileR (fun m => h ((s, m), ())) (fun m => r ((s, m), ())) (fun m => step ((s, m), ())) n (init s) ∧
    whileCr (fun m => Conj ct ((s, m), ())) (fun m => h ((s, m), ())) (fun m => Conj cb ((s, m), ())) (fun m => r ((s, m), ())) (fun m => step ((s, m), ())) k m ∧
    Holds Δl (s, m) F' H' σ' ∧ GrS (musOf 0 fm.ps) Δ σ Δl σ' F H F' H', ⟨n, init s, F, rfl, rfl, k2, hl, gl⟩, ?_⟩
  rintro k σ' H' ⟨m, F', ef, er, ec, hh', g'⟩
  cases k with
  | zero => exact ec.elim
  | succ k =>
    have hh2 : Holds (Δl.comap Prod.fst) ((s, m), ()) F' H' σ' := comap_holds hh'
    refine rt ((s, m), ()) F' H' σ' hh2 g'.fh ec.1 _ fun F1 H1 g1 hh1 => ?_
    rw [msAt_nil] at g1
    have gA : GrS (musOf 0 fm.ps) Δ σ Δl σ' F H F1 H1 := g'.grow g1
    have gB : GrS (musOf 0 fm.ps) Δl σ' (Δl.comap Prod.fst : Ctx K ((S × M) × Unit)) σ' F1 H1 F1 H1 := ⟨⟨Same.refl F1, g1.fh, fun _ _ e => .inl e, fun _ _ e _ => e, fun _ e => e⟩, fun a z => .inl (comap_own.mp z), fun k _ => rfl⟩
    have gC := gA.trans gB
    by_cases hc : h ((s, m), ()) = true
    · rw [if_pos hc]
      refine ⟨fun σ2 H2 => r ((s, m), ()) = none ∧ ∃ F2, Holds Δl (s, step ((s, m), ())) F2 H2 σ2 ∧ GrS (musOf 0 fm.ps) Δ σ Δl σ2 F H F2 H2, fun σ2 H2 ⟨y0, F2, y1, y2⟩ => ⟨k, Nat.lt_succ_self k, _, F2, ?_, ?_, (ec.2 hc).2 y0, y1, y2⟩, ?_⟩
      · rw [← ef]
        show _ = if h ((s, m), ()) = true then _ else _
        rw [if_pos hc]
      · rw [← er]
        show _ = if h ((s, m), ()) = true then _ else _
        rw [if_pos hc]
        simp only [y0]
      · refine rb ((s, m), ()) F1 H1 σ' hh1 g1.fh (ec.2 hc).1 _ (fun y ey => ?_) fun ey σ4 F4 H4 g4 hh4 => ?_
        · have e1 : whileR (fun m => h ((s, m), ())) (fun m => r ((s, m), ())) (fun m => step ((s, m), ())) n (init s) = some y := by
            rw [← er]
            show (if h ((s, m), ()) = true then _ else _) = _
            rw [if_pos hc]
            simp only [ey]
          exact fun v5 F5 H5 g5 ro mo => q1 y e1 v5 F5 H5 (GrR.after gC g5) (ro.dom fun _ => Fresh.back gC) (mo.congr fun j h => gC.mu j h)
        · exact ⟨ey, F4, (hk.as ((s, m), ())).holds hh4, (gC.trans g4).as (hk.as ((s, m), ()))⟩
    · rw [if_neg hc]
      have ef' : m = whileF (fun m => h ((s, m), ())) (fun m => step ((s, m), ())) n (init s) := by
        rw [← ef]
        show m = if h ((s, m), ()) = true then _ else _
        rw [if_neg hc]
      have er' : whileR (fun m => h ((s, m), ())) (fun m => r ((s, m), ())) (fun m => step ((s, m), ())) n (init s) = none := by
        rw [← er]
        show (if h ((s, m), ()) = true then _ else _) = _
        rw [if_neg hc]
      have hl1 : Holds Δl (s, m) F1 H1 σ' := hh'.grow g1
      rw [ef'] at hl1
      exact q2 er' σ' F1 H1 (gA.shape (fun _ => Iff.rfl) fun a z => comap_own.mp z) (comap_holds (g := fun s => (s, whileF (fun m => h ((s, m), ())) (fun m => step ((s, m), ())) n (init s))) hl1)
theorem DS.whileH (h0 : Head init Δ Δl) (ht : DT K X (Δl.comap Prod.fst) c [] ct (Δl.comap Prod.fst) h tx) (hb : DN K X mus (Δl.comap Prod.fst) body cb Δe) (hk : Back step Δe Δl)
    (hp : PassesOwn (model X.prog X.w) X.A X.env X.xe := by exact PassesOwn.never) :
    DS K X mus Δ (.While c body [] pos) [fun s => whileC (fun m => Conj ct ((s, m), ())) (fun m => h ((s, m), ())) (fun m => Conj cb ((s, m), ())) (fun m => step ((s, m), ())) turns (init s)] (Δl.comap fun s => (s, LoopW (fun m => h ((s, m), ())) (fun m => step ((s, m), ())) (init s))) := by
  rw [show (fun s => (s, LoopW (fun m => h ((s, m), ())) (fun m => step ((s, m), ())) (init s))) = fun s => (s, whileF (fun m => h ((s, m), ())) (fun m => step ((s, m), ())) turns (init s)) from funext fun s => by rw [LoopW_eq]]
  exact DS.while_ turns h0 ht hb hk hp
theorem DSm.whileH {r : (S × M) × Unit → Option R} (h0 : Head init Δ Δl) (ht : DT K X (Δl.comap Prod.fst) c [] ct (Δl.comap Prod.fst) h tx) (hb : DM K X fm (Δl.comap Prod.fst) body cb r Δe) (hk : Back step Δe Δl)
    (hp : PassesOwn (model X.prog X.w) X.A X.env X.xe := by exact PassesOwn.never) :
    DSm K X fm Δ (.While c body [] pos) [fun s => whileCr (fun m => Conj ct ((s, m), ())) (fun m => h ((s, m), ())) (fun m => Conj cb ((s, m), ())) (fun m => r ((s, m), ())) (fun m => step ((s, m), ())) turns (init s)] (fun s => LoopWR (fun m => h ((s, m), ())) (fun m => r ((s, m), ())) (fun m => step ((s, m), ())) (init s)) (Δl.comap fun s => (s, LoopW (fun m => h ((s, m), ())) (fun m => step ((s, m), ())) (init s))) := by
  rw [show (fun s => (s, LoopW (fun m => h ((s, m), ())) (fun m => step ((s, m), ())) (init s))) = fun s => (s, whileF (fun m => h ((s, m), ())) (fun m => step ((s, m), ())) turns (init s)) from funext fun s => by rw [LoopW_eq],
    show (fun s => LoopWR (fun m => h ((s, m), ())) (fun m => r ((s, m), ())) (fun m => step ((s, m), ())) (init s)) = fun s => whileR (fun m => h ((s, m), ())) (fun m => r ((s, m), ())) (fun m => step ((s, m), ())) turns (init s) from funext fun s => by rw [LoopWR_eq]]
  exact DSm.while_ turns h0 ht hb hk hp
end
/-! ### bits; x //= e and the like -/
section
variable {K : PySem.W.Frag} {X : Cx} {S : Type} {Δ Δ1 Δ2 : Ctx K S} {e a b : Expr} {pos : Pos} {m1 m2 mus : List Nat} {c1 c2 : List (S → Prop)} {ta tb : TE} {i : Nat} {x : Str} {fa fb : S → Int}
def CNeg0 (_ j : Int) : Prop := 0 ≤ j
/-- i << j: the result within 2 ^ 27 bits -/
def CShX (i j : Int) : Prop := 0 ≤ j ∧ (Builtin.Int.intBits i : Int) + j ≤ 2 ^ 27
theorem op_shlX : OpR X (binaryOp .LShift) (rI CShX fun i j => .int (i * 2 ^ j.toNat)) := opI fun _ _ _ _ _ _ _ hc q => lshift_int hc.1 hc.2 q
theorem DX.shl (ha : DX K X Δ a (tInt K) m1 c1 Δ1 fa ta) (hb : DX K X Δ1 b (tInt K) m2 c2 Δ2 fb tb) : DX K X Δ (.BinOp a .LShift b pos) (tInt K) (m1 ++ m2) (c1 ++ (c2 ++ [fun s => CShX (fa s) (fb s)])) Δ2 (fun s => fa s * 2 ^ (fb s).toNat) (tOp (rI CShX fun i j => .int (i * 2 ^ j.toNat)) ta tb) :=
  DX.bin (τ := tInt K) (g := fun (x y : Int) => x * 2 ^ y.toNat) (r2_I fun _ _ _ => rfl) ha hb fun p q => pe_op op_shlX p q
theorem DX.shr (ha : DX K X Δ a (tInt K) m1 c1 Δ1 fa ta) (hb : DX K X Δ1 b (tInt K) m2 c2 Δ2 fb tb) : DX K X Δ (.BinOp a .RShift b pos) (tInt K) (m1 ++ m2) (c1 ++ (c2 ++ [fun s => CNeg0 (fa s) (fb s)])) Δ2 (fun s => fa s / 2 ^ (fb s).toNat) (tOp (rI CNeg0 fun i j => .int (i / 2 ^ j.toNat)) ta tb) :=
  DX.bin (τ := tInt K) (g := fun (x y : Int) => x / 2 ^ y.toNat) (r2_I fun _ _ _ => rfl) ha hb fun p q => pe_op op_shr p q
theorem DX.band (ha : DX K X Δ a (tInt K) m1 c1 Δ1 fa ta) (hb : DX K X Δ1 b (tInt K) m2 c2 Δ2 fb tb) : DX K X Δ (.BinOp a .BitAnd b pos) (tInt K) (m1 ++ m2) (c1 ++ (c2 ++ [])) Δ2 (fun s => Builtin.bitAnd (fa s) (fb s)) (tOp (rI0 fun i j => .int (Builtin.bitAnd i j)) ta tb) :=
  DX.bin (τ := tInt K) (cc := []) (g := fun (x y : Int) => Builtin.bitAnd x y) (r2_I0 fun _ _ _ => rfl) ha hb fun p q => pe_op op_and p q
theorem DS.augI {o : Operator} {C : Int → Int → Prop} {g : Int → Int → Int} {f fe : S → Int} {px : Pos} (hop : OpR X (inplaceOp o) (rI C fun i j => .int (g i j))) (he : DX K X Δ e (tInt K) [] c1 Δ fe ta) (h : Δ[i]? = some (.fz (tInt K) f)) (hN : X.N.Nodup) (hi : X.N[i]? = some x) (hx : Loc X.env.scope x) (hu : i ∉ mus) (hf : X.fn x = true ∨ X.env.scope.names.lookup x = some .local := by first | exact .inl rfl | exact .inr rfl | assumption) : DS K X mus Δ (.AugAssign (.Name x px) o e pos) (c1 ++ [fun s => C (f s) (fe s)]) (Δ.set i (.fz (tInt K) fun s => g (f s) (fe s))) := by
  obtain ⟨d1, p, r⟩ := he
  refine ⟨_, ps_aug hN hi hx p hop hf, fun s F H σ hh sm hc D q => ?_⟩
  obtain ⟨k1, k2, _⟩ := conj_app hc
  have hl : i < σ.length := by rw [hh.len]; exact (List.getElem?_eq_some_iff.mp h).1
  obtain ⟨o, ho⟩ : ∃ o, σ[i]? = some o := ⟨_, List.getElem?_eq_getElem hl⟩
  obtain ⟨v, ev, rv⟩ := hh.at_ i _ o h ho
  refine ⟨v, by rw [ho, ev], r s F H σ hh sm k1 _ fun w F1 H1 g1 hh1 r1 => ⟨f s, fe s, rv, r1, k2, ?_⟩⟩
  rw [msAt_nil] at g1
  have gs : GrS mus Δ σ Δ σ F H F1 H1 := gs0 (ms := []) trivial Diff.refl hh (by rw [msAt_nil]; exact g1)
  exact q _ F1 H1 (gs.set hu hh1.len.symm fun _ _ _ z _ => nomatch z) (hh1.setF (show (tInt K).rep F1 (.int (g (f s) (fe s))) (g (f s) (fe s)) from rfl))
theorem iop_mulX : OpR X (inplaceOp .Mult) (rI CMulX fun i j => .int (i * j)) := opI fun _ _ _ _ _ _ _ hc q => imul_int q hc.ok
theorem iop_modP : OpR X (inplaceOp .Mod) (rI CPosM fun i j => .int (i % j)) := iop_mod
end
end Dx

/-! Dx, part l: list(range(n)), the place of a thing in a list. -/
namespace Dx
open PySem PySem.Spec PyProof PyProof.Rows L2
section
variable {K : PySem.W.Frag} {X : Cx} {S : Type} {Δ Δ1 Δ2 : Ctx K S} {e a b : Expr} {pos px apos : Pos} {τ : Ty K} {ms m1 m2 : List Nat} {c1 c2 : List (S → Prop)} {ta tb : TE} {i : Nat} {x : Str} {k : Nat} {d : DF τ.α}
theorem rangeL2_zero (n : Int) : rangeL2 0 n = rangeL n := by
  unfold rangeL2 rangeL
  rw [Int.sub_zero]
  exact List.map_congr_left fun i _ => Int.zero_add _
/-- list(range(n)), not too long -/
theorem DO.listRg1 {f : S → Int} {p1 p2 : Pos} (hm : X.mg "list" = none) (hm2 : X.mg "range" = none) (ha : DX K X Δ a (tInt K) m1 c1 Δ1 f ta) (hc : X.calm = true := by rfl) (hg : Gl X "list" := by rfl) (hg2 : Gl X "range" := by rfl)
    (na : starEach [a] X.env = (false, eval a X.env) :: starEach [] X.env := by rfl) (hn : starEach [.Call (.Name "range" p1) [a] [] p2] X.env = (false, eval (.Call (.Name "range" p1) [a] [] p2) X.env) :: starEach [] X.env := by rfl) :
    DO K X Δ (.Call (.Name "list" px) [.Call (.Name "range" p1) [a] [] p2] [] pos) (oList (tInt K)) m1 (c1 ++ [fun s => f s ≤ sizeLine]) Δ1 (fun s => rangeL (f s)) (tLstLg (tRg1 ta)) := by
  obtain ⟨d1, p, r⟩ := ha
  refine ⟨d1, pe_listLg hc hg hm (prg_1 hg2 hm2 p na) hn, fun s F H σ hh sm hc Q q => ?_⟩
  obtain ⟨k1, k7, _⟩ := conj_app hc
  have k7' : f s ≤ sizeLine := k7
  refine r s F H σ hh sm k1 _ fun v F1 H1 g1 hh1 r1 => ⟨f s, by rw [show v = .int (f s) from r1], by omega, fun l n => ?_⟩
  have ow : (oList (tInt K)).own F1 (.lst (rgV 0 (f s))) (rangeL (f s)) := ⟨_, rfl, by rw [rgV_eq, rangeL2_zero]; exact paired_intsR _, by unfold rangeL; rw [List.length_map, List.length_range]; omega⟩
  obtain ⟨g3, fn, e3⟩ := own_of_new (ω := oList (tInt K)) g1.fh n ow
  exact q l _ F1 _ (g1.trans g3.of0) (hh1.grow g3) (g1.dom l n) fn e3 ow
/-- the first place of an equal thing -/
def idxD {α : Type} (d : DF α) (x : α) (xs : List α) : Nat := xs.findIdx fun z => d.eq z x
theorem DX.indexD {f : S → List τ.α} {fe : S → τ.α} (hr : RoomG k X.A) (hd0 : Dat τ d) (h : Δ[i]? = some (.fz (tList τ) f)) (he : DX K X Δ e τ ms c1 Δ1 fe ta) (hn : d.n ≤ 63 := by decide) (hN : X.N[i]? = some x := by rfl) (hv : Vis X.env.scope x := by first | exact Or.inl rfl | exact Or.inr (Or.inl rfl) | exact Or.inr (Or.inr rfl)) (hd : (x == ("__debug__" : Str)) = false := by decide)
    (hcd : (x == ("__classdict__" : Str)) = false := by decide) (hbase : attributeBase (.Name x px) "index" X.env (eval (.Name x px) X.env) = eval (.Name x px) X.env := by rfl)
    (hfew : ((backTo pos (starEach [e] X.env)).all (fun x => !x.1) && (backToKw pos (keywordEach [] X.env)).all (fun x => x.1.isSome)
      && decide ([e].length + ([] : List Keyword).length + (if ([] : List Keyword).isEmpty then 0 else 1) < 30)) = true := by rfl)
    (hline : (apos.endLine == pos.line) = true := by rfl) (hs : starEach [e] X.env = (false, eval e X.env) :: starEach [] X.env := by rfl) (hplain : (backTo pos (starEach [] X.env)).any (·.1) = false := by rfl) (hK : X.K = K := by rfl) :
    DX K X Δ (.Call (.Attribute (.Name x px) "index" apos) [e] [] pos) (tInt K) ms (c1 ++ [fun s => idxD d (fe s) (f s) < (f s).length]) Δ1 (fun s => ((idxD d (fe s) (f s) : Nat) : Int)) (tBM K "list" (rIndexD K) (tVar i) (tCons ta tNil)) := by
  subst hK
  obtain ⟨d1, p, r⟩ := he
  refine ⟨d1, pe_bm PySem.F.plainAttrs_list PySem.F.slot_list_index PySem.F.type_list_index (mt_indexD (by have := hr.rm.un; omega)) (pe_var hN hv hd hcd) (pa_cons p pa_nil hs) hbase hfew hline hs hplain, fun s F H σ hh sm hc Q q => ?_⟩
  obtain ⟨k1, k2, _⟩ := conj_app hc
  have hi : i < σ.length := by rw [hh.len]; exact (List.getElem?_eq_some_iff.mp h).1
  obtain ⟨o, ho⟩ : ∃ o, σ[i]? = some o := ⟨_, List.getElem?_eq_getElem hi⟩
  obtain ⟨v, e, r0⟩ := hh.at_ i _ o h ho
  obtain ⟨a, vs, ev, sq, pr, z⟩ := r0
  have h2 := dat_list hd0
  have r0' : (tList τ).rep F v (f s) := ⟨a, vs, ev, sq, pr, z⟩
  have sh2 : SeqAt.shaped ((dfList d).toD (f s)) = true := by
    unfold SeqAt.shaped
    rw [h2.lay r0', Bool.true_and]
    exact decide_eq_true (Nat.le_trans (h2.pl.dep _) (by show d.n + 1 ≤ 64; omega))
  have k2 : (f s).findIdx (fun z => d.eq z (fe s)) < (f s).length := k2
  have el := List.findIdx_getElem (w := k2)
  have eno : ∀ m, m < (f s).findIdx (fun z => d.eq z (fe s)) → ∀ hm : m < (f s).length, d.eq (f s)[m] (fe s) = false := fun m hm hl => by
    have := List.not_of_lt_findIdx hm
    simpa using this
  subst ev
  refine ⟨.ref a, by rw [ho, e], .inl ⟨rfl, _, .inl (.inl (sm _ _ sq))⟩, r s F H σ hh sm k1 _ fun w F1 H1 g1 hh1 r1 => ?_⟩
  refine ⟨a, w, d.toD (fe s), (f s).map d.toD, (f s).findIdx (fun z => d.eq z (fe s)), d.toD ((f s)[(f s).findIdx fun z => d.eq z (fe s)]), rfl, rfl, ?_, hd0.dp (τ.mono g1.fh r1), sh2, ?_, ?_, ?_, ?_, q _ F1 H1 g1 hh1 rfl⟩
  · exact h2.dp ((tList τ).mono (g1.ff.trans g1.fh) r0')
  · unfold SeqAt.shaped
    rw [hd0.lay r1, Bool.true_and]
    exact decide_eq_true (Nat.le_trans (hd0.pl.dep _) (by omega))
  · rw [List.getElem?_map, List.getElem?_eq_getElem k2]; rfl
  · rw [hd0.pl.eqv]; exact el
  · intro m z' hm hz
    rw [List.getElem?_map, List.getElem?_eq_getElem (by omega)] at hz
    have hz : d.toD (f s)[m] = z' := by simpa using hz
    rw [← hz, hd0.pl.eqv]
    exact eno m hm (by omega)
end
end Dx

/-! Dx, part m: len(set(ints)), dict(pairs) as a row of keys. -/
namespace Dx
open PySem PySem.Spec PyProof PyProof.Rows L2
section
variable {X : Cx}
def rLenM (w : World) : List V → Hp → VK → Prop := fun vs H Q => ∃ (a : Addr) (S : Int → Bool) (n : Nat), vs = [V.ref a] ∧ H a = some (SetO w a S n) ∧ ∀ ns : List Int, ns.Nodup → (∀ k : Int, k ∈ ns ↔ S k = true) → Q (.int ns.length) H
theorem cr_lenM : CallR X (.builtin "len") (rLenM X.w) := by
  intro pins s σ H vs us Q I r h
  obtain ⟨a, S, n, rfl, ha, q⟩ := h
  rw [Vals.ref1 r]
  obtain ⟨o, es, ep, t, ho, hex, hd, ge, nod, mem, few, fits, hn, _, _⟩ := setO_get I ha
  have l : (es.toList.map keyOf).length = es.size := by rw [List.length_map, Array.length_toList]
  have sb : scanBound < 2 ^ 63 := by decide
  refine call_len_set ho hex hd fits (by omega) ⟨.int es.size, H, I.tok _, ⟨s.toks + 1, rfl⟩, ?_⟩
  have := q (es.toList.map keyOf) nod fun k => (mem k).symm
  rw [l] at this
  exact this
end
section
variable {K : PySem.W.Frag} {X : Cx} {S : Type} {Δ Δ1 : Ctx K S} {e : Expr} {pos px pos2 px2 : Pos} {τ L : Ty K} {ms : List Nat} {c1 : List (S → Prop)} {ta : TE}
/-- len(set(e)), ints -/
theorem DX.lenSet {to : L.α → List Int} {f : S → L.α} (hl : LL L (tInt K) to) (hm : X.mg "len" = none) (hm2 : X.mg "set" = none) (he : DX K X Δ e L ms c1 Δ1 f ta) (hK : X.K = K := by rfl) (hcm : X.calm = true := by rfl) (hg : Gl X "len" := by rfl) (hg2 : Gl X "set" := by rfl)
    (hs : starEach [e] X.env = (false, eval e X.env) :: starEach [] X.env := by rfl) (hpl : (backTo pos2 (starEach [] X.env)).any (·.1) = false := by rfl)
    (hs2 : starEach [.Call (.Name "set" px2) [e] [] pos2] X.env = (false, eval (.Call (.Name "set" px2) [e] [] pos2) X.env) :: starEach [] X.env := by rfl) (hpl2 : (backTo pos (starEach [] X.env)).any (·.1) = false := by rfl) :
    DX K X Δ (.Call (.Name "len" px) [.Call (.Name "set" px2) [e] [] pos2] [] pos) (tInt K) ms (c1 ++ [fun s => (to (f s)).length + 1 < 4096]) Δ1 (fun s => ((sortU (to (f s))).length : Int)) (tCB (rLenM X.w) (tCons (tCB (rSetI K X.w) (tCons ta tNil)) tNil)) := by
  subst hK
  obtain ⟨d1, p, r⟩ := he
  have p2 : PE X (.Call (.Name "set" px2) [e] [] pos2) (tCB (rSetI X.K X.w) (tCons ta tNil)) := pe_callTy (cr_setI hcm) hg2 hm2 (by decide +kernel) (pa_cons p pa_nil hs) (by decide) (by decide) hs hpl
  refine ⟨d1, pe_callB cr_lenM hg hm PySem.boot_len (pa_cons p2 pa_nil hs2) (by decide) (by decide) hs2 hpl2, fun s F H σ hh sm hc Q q => ?_⟩
  obtain ⟨k1, k2, _⟩ := conj_app hc
  refine r s F H σ hh sm k1 _ fun v F1 H1 g1 hh1 r1 => ?_
  obtain ⟨a, vs, ev, sq, pr, z⟩ := hl r1
  have e1 := paired_ints pr
  subst e1
  refine ⟨a, to (f s), by rw [ev], g1.fh.seq sq, k2, fun p c n => ⟨p, _, c, rfl, upd_same, fun ns h1 h2 => ?_⟩⟩
  have e2 : ns.length = (sortU (to (f s))).length := ((List.perm_ext_iff_of_nodup h1 ((sortU_asc _).imp fun h => by omega)).mpr fun k => by rw [h2 k, sortU_mem, decide_eq_true_iff]).length_eq
  rw [e2]
  exact q _ F1 _ (g1.trans (Gr.newO g1.fh n).of0) (hh1.grow (Gr.newO g1.fh n)) rfl
/-! ### dict(pairs): its keys -/
def keysD {α : Type} (xs : List (Int × α)) : List Int := (xs.map Prod.fst).foldl insK []
theorem keysD_len {α : Type} (xs : List (Int × α)) : (keysD xs).length ≤ xs.length := by
  have h : ∀ (ys ks : List Int), (ys.foldl insK ks).length ≤ ks.length + ys.length := by
    intro ys
    induction ys with
    | nil => intro ks; exact Nat.le_refl _
    | cons y ys ih =>
      intro ks
      have h1 := ih (insK ks y)
      have h2 := insK_len ks y
      show (ys.foldl insK (insK ks y)).length ≤ _
      rw [List.length_cons]; omega
  have := h (xs.map Prod.fst) []
  rw [List.length_map] at this
  simpa [keysD] using this
theorem keys_fold : ∀ {kvs : List (Key × V)} {ns : List Int} {d : List (Key × V)} {ks : List Int}, KeysOf d ks → kvs.map (·.1) = ns.map Sum.inl → KeysOf (kvs.foldl (fun d kv => putK d kv.1 kv.2) d) (ns.foldl insK ks)
  | [], [], d, ks, h, _ => h
  | [], n :: ns, _, _, _, e => by cases e
  | kv :: kvs, [], _, _, _, e => by cases e
  | kv :: kvs, n :: ns, d, ks, h, e => by
    rw [List.map_cons, List.map_cons] at e
    obtain ⟨e1, e2⟩ := List.cons.inj e
    rw [List.foldl_cons, List.foldl_cons]
    refine keys_fold ?_ e2
    rw [e1]
    exact keys_put h n
theorem pair_repK {F H : Hp} (sm : Same F H) : ∀ {vs : List V} {xs : List (Int × τ.α)}, Paired ((tTp [tInt K, τ]).rep F) vs xs → ∃ kvs : List (Key × V), Paired (PairV K H) vs kvs ∧ kvs.map (·.1) = (xs.map Prod.fst).map Sum.inl
  | _, _, .nil => ⟨[], .nil, rfl⟩
  | _, _, .cons (b := x) r t => by
    obtain ⟨kvs, h1, h2⟩ := pair_repK sm t
    obtain ⟨a, ws, e, q, r2⟩ := r
    obtain ⟨v1, rest, e2, e3, v2, e4, e5⟩ := r2
    refine ⟨(.inl x.1, v2) :: kvs, .cons ⟨a, e, .inl (.inl ?_)⟩ h1, ?_⟩
    · rw [sm _ _ q, e2, e4, show v1 = V.int x.1 from e3]
      rfl
    · exact congrArg (fun l => (Sum.inl x.1 : Key) :: l) h2
theorem DO.dictKeys {f : S → List (Int × τ.α)} (hm : X.mg "dict" = none) (he : DX K X Δ e (tList (tTp [tInt K, τ])) ms c1 Δ1 f ta) (hK : X.K = K := by rfl) (hc : X.calm = true := by rfl) (hg : Gl X "dict" := by rfl) (hs : starEach [e] X.env = (false, eval e X.env) :: starEach [] X.env := by rfl) :
    DO K X Δ (.Call (.Name "dict" px) [e] [] pos) (oDic K) ms c1 Δ1 (fun s => keysD (f s)) (tThen ta (kDct K)) := by
  subst hK
  obtain ⟨d1, p, r⟩ := he
  refine ⟨d1, pe_dictOf hc hg hm p hs, fun s F H σ hh sm hcj Q q => ?_⟩
  refine r s F H σ hh sm hcj _ fun v F1 H1 g1 hh1 ⟨a, vs, ev, sq, pr, z⟩ => ?_
  obtain ⟨kvs, h1, h2⟩ := pair_repK g1.fh pr
  refine ⟨a, vs, kvs, ev, .inl (.inl (g1.fh _ _ sq)), h1, by rw [pr.length]; exact z, fun l n => ?_⟩
  have ow : (oDic X.K).own F1 (.dK (dictV kvs)) (keysD (f s)) := ⟨_, rfl, keys_fold rfl h2, Nat.le_trans (keysD_len _) z⟩
  obtain ⟨g3, fn, e3⟩ := own_of_new (ω := oDic X.K) g1.fh n ow
  exact q l _ F1 _ (g1.trans g3.of0) (hh1.grow g3) (g1.dom l n) fn e3 ow
end
end Dx

/-! Dx, part n: [elt for x in xs for y in ys]; tuples of one and of two as tuples of any length. -/
namespace Dx
open PySem PySem.Spec PyProof PyProof.Rows L2
section
variable {K : PySem.W.Frag} {S : Type}
theorem Holds.growD {Δ : Ctx K S} {s : S} {F H F' H' : Hp} {σ : L2.St} {D : Addr} (h : Holds Δ s F H σ) (g : Gr (fun a => a = D) F H F' H') (no : ¬ Own Δ σ D) : Holds Δ s F' H' σ where
  len := h.len
  at_ := fun i sl o e1 e2 => by
    have r := h.at_ i sl o e1 e2
    cases sl with
    | dead => trivial
    | fz τ f => obtain ⟨v, e, q⟩ := r; exact ⟨v, e, τ.mono g.ff q⟩
    | ow ω f =>
      obtain ⟨p, u, e, n, hp, q⟩ := r
      subst e
      have nd : p ≠ D := fun z => no ⟨i, ω, f, e1, by rw [← z]; exact e2⟩
      refine ⟨p, u, rfl, ?_, g.keep _ _ hp nd, ω.mono g.ff q⟩
      cases x : F' p with
      | none => rfl
      | some o' =>
        rcases g.fresh p o' x with z | z
        · rw [n] at z; cases z
        · rw [hp] at z; cases z
  sep := h.sep
theorem wipe_at {j : Nat} : ∀ {ws : List Nat} {σ : L2.St}, j ∈ ws → (wipe σ ws)[j]? = if j < σ.length then some none else none
  | [], _, h => by cases h
  | w :: ws, σ, h => by
    unfold wipe
    by_cases hw : w = j
    · subst hw
      rw [List.getElem?_set, if_pos rfl, wipe_length]
    · rw [List.getElem?_set_ne hw]
      exact wipe_at ((List.mem_cons.mp h).resolve_left fun z => hw z.symm)
/-- only names of the block were stored -/
theorem wipe_back {σ σ3 : L2.St} {vs is : List Nat} (l3 : σ3.length = σ.length) (nx : ∀ k, k ∉ is → σ3[k]? = (wipe σ vs)[k]?) (his : ∀ j ∈ is, j ∈ vs) : wipe σ3 vs = wipe σ vs := by
  apply List.ext_getElem?
  intro j
  by_cases hj : j ∈ vs
  · rw [wipe_at hj, wipe_at hj, l3]
  · rw [wipe_out hj, wipe_out hj, nx j fun z => hj (his j z), wipe_out hj]
end
/-- [fe x y for x in xs for y in f1 x] -/
def lc2V {α β γ : Type} (xs : List α) (f1 : α → List β) (fe : α → β → γ) : List γ := xs.flatMap fun x => (f1 x).map (fe x)
section
variable {K : PySem.W.Frag} {X : Cx} {S : Type} {Δ Δ1 : Ctx K S} {tg iter tg1 iter1 elt : Expr} {pos : Pos} {τ τ1 τe : Ty K} {ms is is1 vs vs1 : List Nat} {c1 : List (S → Prop)} {te : TE}
theorem stayD {D : Addr} {acc : List V} {Fa Ha Fb Hb : Hp} (g : Gr No Fa Ha Fb Hb) (n : Fa D = none) (h : Ha D = some (.lst acc)) : Fb D = none ∧ Hb D = some (.lst acc) := by
  refine ⟨?_, g.same _ _ h⟩
  cases z : Fb D with
  | none => rfl
  | some o =>
    rcases g.fresh D o z with w | w
    · rw [n] at w; cases w
    · rw [h] at w; cases w
theorem appD {D : Addr} {acc : List V} {w : V} {F H : Hp} (sm : Same F H) (n : F D = none) : Gr (fun a => a = D) F H F (upd H D (.lst (acc ++ [w]))) :=
  ⟨Same.refl F, fun a o z => by rw [upd_ne (ne_of_none z n)]; exact sm a o z, fun a o z => .inl z, fun a o z nz => by rw [upd_ne nz]; exact z, fun a z => by
    by_cases y : a = D
    · subst y; rw [upd_same] at z; cases z
    · rw [upd_ne y] at z; exact z⟩
theorem lc2_sem {Δb : Ctx K (S × τ.α)} {Δc : Ctx K ((S × τ.α) × τ1.α)} {fx : S → List τ.α} {fx1 : S × τ.α → List τ1.α} {wi wi1 : TI} {g g1 : TG} {ci : List (S × τ.α → Prop)} {ce : List ((S × τ.α) × τ1.α → Prop)} {fe : (S × τ.α) × τ1.α → τe.α}
    (ri : ∀ s F H σ, Holds Δ s F H σ → Same F H → Conj c1 s → ∀ R : It → Hp → Prop, (∀ J F' H', Gr (MsAt ms σ) F H F' H' → Holds Δ1 s F' H' σ → Walks K J F' τ (fx s) → R J H') → wi σ H R)
    (lg : Δb.length = (Ctx.comap (T := S × τ.α) Prod.fst (killL Δ1 vs)).length) (rg : ∀ (s : S × τ.α) F H σ v, Holds (Ctx.comap (T := S × τ.α) Prod.fst (killL Δ1 vs)) s F H σ → Same F H → τ.rep F v s.2 → ∀ Q : L2.St → Hp → Prop, (∀ σ1, Holds Δb s F H σ1 → (∀ a, Own Δb σ1 a → Own (Ctx.comap (T := S × τ.α) Prod.fst (killL Δ1 vs)) σ a) → (∀ k, k ∉ is → σ1[k]? = σ[k]?) → Q σ1 H) → g v σ H Q)
    (ri1 : ∀ s F H σ, Holds Δb s F H σ → Same F H → Conj ci s → ∀ R : It → Hp → Prop, (∀ J F' H', Gr (MsAt [] σ) F H F' H' → Holds Δb s F' H' σ → Walks K J F' τ1 (fx1 s) → R J H') → wi1 σ H R)
    (lg1 : Δc.length = (Ctx.comap (T := (S × τ.α) × τ1.α) Prod.fst (killL Δb vs1)).length) (rg1 : ∀ (s : (S × τ.α) × τ1.α) F H σ v, Holds (Ctx.comap (T := (S × τ.α) × τ1.α) Prod.fst (killL Δb vs1)) s F H σ → Same F H → τ1.rep F v s.2 → ∀ Q : L2.St → Hp → Prop, (∀ σ1, Holds Δc s F H σ1 → (∀ a, Own Δc σ1 a → Own (Ctx.comap (T := (S × τ.α) × τ1.α) Prod.fst (killL Δb vs1)) σ a) → (∀ k, k ∉ is1 → σ1[k]? = σ[k]?) → Q σ1 H) → g1 v σ H Q)
    (re : ∀ s F H σ, Holds Δc s F H σ → Same F H → Conj ce s → ∀ Q : VK, (∀ v F' H', Gr (MsAt [] σ) F H F' H' → Holds Δc s F' H' σ → τe.rep F' v (fe s) → Q v H') → te σ H Q)
    (his : ∀ j ∈ is, j ∈ vs) (his1 : ∀ j ∈ is1, j ∈ vs1) :
    ∀ s F H σ, Holds Δ s F H σ → Same F H → Conj (c1 ++ [fun s => ∀ x ∈ fx s, Conj ci (s, x) ∧ ∀ y ∈ fx1 (s, x), Conj ce ((s, x), y), fun s => (lc2V (fx s) (fun x => fx1 (s, x)) (fun x y => fe ((s, x), y))).length ≤ sizeLine]) s → ∀ Q : VK, (∀ p u F' H', Gr (MsAt ms σ) F H F' H' → Holds Δ1 s F' H' σ → H p = none → F' p = none → H' p = some u → (oList τe).own F' u (lc2V (fx s) (fun x => fx1 (s, x)) (fun x y => fe ((s, x), y))) → Q (.ref p) H') → tLc2 wi g tYes wi1 g1 tYes te vs vs1 σ H Q := by
  intro s F H σ hh sm hcs Q q
  obtain ⟨k1, k2, k3, _⟩ := conj_app hcs
  have k3 : (lc2V (fx s) (fun x => fx1 (s, x)) (fun x y => fe ((s, x), y))).length ≤ sizeLine := k3
  refine ri s F H σ hh sm k1 _ fun J F1 H1 g1' hh1 wk D hD => ?_
  have nD : F1 D = none := g1'.fh.free hD
  obtain ⟨val, eval_⟩ : ∃ val : List τ.α → List τe.α, val = fun xs => lc2V xs (fun x => fx1 (s, x)) (fun x y => fe ((s, x), y)) := ⟨_, rfl⟩
  have val_app : ∀ xs x, val (xs ++ [x]) = val xs ++ (fx1 (s, x)).map fun y => fe ((s, x), y) := fun xs x => by
    rw [eval_]
    unfold lc2V
    show List.flatMap _ (xs ++ [x]) = List.flatMap _ xs ++ _
    rw [List.flatMap_append, List.flatMap_singleton]
  have vfull : val (fx s) = lc2V (fx s) (fun x => fx1 (s, x)) (fun x y => fe ((s, x), y)) := by rw [eval_]
  have vlen : ∀ i (hi : i < (fx s).length), (val ((fx s).take i)).length + (fx1 (s, (fx s)[i])).length ≤ sizeLine := fun i hi => by
    have e : fx s = ((fx s).take i ++ [(fx s)[i]]) ++ (fx s).drop (i + 1) := by
      rw [List.append_assoc, List.singleton_append, List.getElem_cons_drop, List.take_append_drop]
    have h : (val (fx s)).length = (val ((fx s).take i)).length + (fx1 (s, (fx s)[i])).length + (val ((fx s).drop (i + 1))).length := by
      have e2 : val (fx s) = val ((fx s).take i ++ [(fx s)[i]]) ++ val ((fx s).drop (i + 1)) := by
        rw [eval_]
        unfold lc2V
        show List.flatMap _ (fx s) = List.flatMap _ ((fx s).take i ++ [(fx s)[i]]) ++ List.flatMap _ ((fx s).drop (i + 1))
        rw [← List.flatMap_append, ← e]
      rw [e2, List.length_append, val_app, List.length_append, List.length_map]
    rw [vfull] at h
    omega
  refine ⟨fun i k H' => ∃ F' acc, k = (fx s).length - i ∧ i ≤ (fx s).length ∧ Gr (fun a => a = D) F1 (upd H1 D (.lst [])) F' H' ∧ F' D = none ∧ H' D = some (.lst acc) ∧ Paired (τe.rep F') acc (val ((fx s).take i)),
    ⟨_, F1, [], rfl, Nat.zero_le _, Gr.refl (fun a o z => by rw [upd_ne (ne_of_none z nD)]; exact g1'.fh a o z), nD, upd_same, by rw [List.take_zero, eval_]; exact .nil⟩, ?_⟩
  rintro i k H' ⟨F', acc, rfl, hi, g', n', e', pr⟩
  have sf : Same F1 F' := g'.ff
  -- the frame's own objects stand as they stood
  have back : Gr No F1 H1 F' H' := gr_mk (fun a o z => g'.keep a o (by rw [upd_ne (ne_of_none z hD)]; exact z) fun w => by subst w; rw [hD] at z; cases z) g'.ff g'.fh fun a o z => by
    rcases g'.fresh a o z with w | w
    · exact .inl w
    · by_cases y : a = D
      · subst y; exact .inr hD
      · rw [upd_ne y] at w; exact .inr w
  by_cases hlt : i < (fx s).length
  · refine .inr ?_
    have ex : (fx s)[i]? = some (fx s)[i] := List.getElem?_eq_getElem hlt
    obtain ⟨w1, w2⟩ := wk.go i _ F' H' sf g'.fh ex
    have kx := k2 _ (List.getElem_mem hlt)
    have vl := vlen i hlt
    have ek : (fx s).take (i + 1) = (fx s).take i ++ [(fx s)[i]] := by rw [List.take_add_one, ex]; rfl
    refine ⟨w1, fun H2 => ∃ F2 acc2, Gr (fun a => a = D) F1 (upd H1 D (.lst [])) F2 H2 ∧ F2 D = none ∧ H2 D = some (.lst acc2) ∧ Paired (τe.rep F2) acc2 (val ((fx s).take (i + 1))), fun H2 ⟨F2, acc2, y1, y2, y3, y4⟩ => ⟨_, by omega, F2, acc2, rfl, hlt, y1, y2, y3, y4⟩, fun v H2 hy => ?_⟩
    obtain ⟨F2, g2, rv⟩ := w2 v H2 hy
    have hhk : Holds (Ctx.comap (T := S × τ.α) Prod.fst (killL Δ1 vs)) (s, (fx s)[i]) F2 H2 (wipe σ vs) := comap_holds (kill_holds ((hh1.grow back).grow g2))
    have hhk1 : Holds (Ctx.comap (T := S × τ.α) Prod.fst (killL Δ1 vs)) (s, (fx s)[i]) F1 H1 (wipe σ vs) := comap_holds (kill_holds hh1)
    refine rg (s, (fx s)[i]) F2 H2 (wipe σ vs) v hhk g2.fh rv _ fun σ3 hh3 ow3 nx3 => ⟨?_, ?_⟩
    · refine wipe_back ?_ nx3 his
      have l3 : σ3.length = (wipe σ vs).length := by rw [hh3.len, hhk.len]; exact lg
      rw [l3, wipe_length]
    · show wi1 σ3 H2 _
      have noD : ¬ Own Δb σ3 D := fun z => by
        obtain ⟨i1, ω1, f1, z1, z2⟩ := ow3 D z
        obtain ⟨p, u, z3, _, z5, _⟩ := hhk1.at_ i1 _ _ z1 z2
        have : Option.some (V.ref D) = some (V.ref p) := z3
        cases this
        rw [hD] at z5; cases z5
      obtain ⟨n2, e2⟩ := stayD g2 n' e'
      refine ri1 (s, (fx s)[i]) F2 H2 σ3 hh3 g2.fh kx.1 _ fun J1 F4 H4 g4 hh4 wk1 => ?_
      rw [msAt_nil] at g4
      obtain ⟨n4, e4⟩ := stayD g4 n2 e2
      have gD4 : Gr (fun a => a = D) F1 (upd H1 D (.lst [])) F4 H4 := g'.trans ((g2.trans g4).of0)
      have pr4 : Paired (τe.rep F4) acc (val ((fx s).take i)) := paired_mono (fun a b r => τe.mono (g2.trans g4).ff r) pr
      obtain ⟨ys, eys⟩ : ∃ ys, ys = fx1 (s, (fx s)[i]) := ⟨_, rfl⟩
      rw [← eys] at wk1 vl
      have kxy := kx.2
      rw [← eys] at kxy
      refine ⟨fun j k H5 => ∃ F5 acc5, k = ys.length - j ∧ j ≤ ys.length ∧ Gr (fun a => a = D) F4 H4 F5 H5 ∧ F5 D = none ∧ H5 D = some (.lst acc5) ∧ Paired (τe.rep F5) acc5 (val ((fx s).take i) ++ (ys.take j).map fun y => fe ((s, (fx s)[i]), y)),
        ⟨_, F4, acc, rfl, Nat.zero_le _, Gr.refl gD4.fh, n4, e4, by rw [List.take_zero, List.map_nil, List.append_nil]; exact pr4⟩, ?_⟩
      rintro j k5 H5 ⟨F5, acc5, rfl, hj, g5, n5, e5, pr5⟩
      by_cases hlt1 : j < ys.length
      · refine .inr ?_
        have ex1 : ys[j]? = some ys[j] := List.getElem?_eq_getElem hlt1
        obtain ⟨u1, u2⟩ := wk1.go j _ F5 H5 g5.ff g5.fh ex1
        have ek1 : ys.take (j + 1) = ys.take j ++ [ys[j]] := by rw [List.take_add_one, ex1]; rfl
        refine ⟨u1, fun H8 => ∃ F8 acc8, Gr (fun a => a = D) F4 H4 F8 H8 ∧ F8 D = none ∧ H8 D = some (.lst acc8) ∧ Paired (τe.rep F8) acc8 (val ((fx s).take i) ++ (ys.take (j + 1)).map fun y => fe ((s, (fx s)[i]), y)), fun H8 ⟨F8, acc8, y1, y2, y3, y4⟩ => ⟨_, by omega, F8, acc8, rfl, hlt1, y1, y2, y3, y4⟩, fun v6 H6 hy6 => ?_⟩
        obtain ⟨F6, g6, rv6⟩ := u2 v6 H6 hy6
        obtain ⟨n6, e6⟩ := stayD g6 n5 e5
        have hh6 : Holds Δb (s, (fx s)[i]) F6 H6 σ3 := hh4.growD (g5.trans g6.of0) noD
        have hhk6 : Holds (Ctx.comap (T := (S × τ.α) × τ1.α) Prod.fst (killL Δb vs1)) ((s, (fx s)[i]), ys[j]) F6 H6 (wipe σ3 vs1) := comap_holds (kill_holds hh6)
        refine rg1 ((s, (fx s)[i]), ys[j]) F6 H6 (wipe σ3 vs1) v6 hhk6 g6.fh rv6 _ fun σ7 hh7 ow7 nx7 => ⟨?_, ?_⟩
        · refine wipe_back ?_ nx7 his1
          have l3 : σ7.length = (wipe σ3 vs1).length := by rw [hh7.len, hhk6.len]; exact lg1
          rw [l3, wipe_length]
        · show te σ7 H6 _
          refine re _ F6 H6 σ7 hh7 g6.fh (kxy _ (List.getElem_mem hlt1)) _ fun w F7 H7 g7 hh7' r7 => ?_
          rw [msAt_nil] at g7
          obtain ⟨n7, e7⟩ := stayD g7 n6 e6
          have ll : acc5.length < sizeLine := by
            rw [pr5.length, List.length_append, List.length_map, List.length_take]
            omega
          refine ⟨acc5, e7, ll, F7, acc5 ++ [w], (g5.trans ((g6.trans g7).of0)).trans (appD g7.fh n7), n7, upd_same, ?_⟩
          rw [ek1, List.map_append, ← List.append_assoc]
          exact paired_app (paired_mono (fun a b r => τe.mono (g6.trans g7).ff r) pr5) (.cons r7 .nil)
      · refine .inl ⟨wk1.stop j F5 H5 g5.ff g5.fh (by omega), F5, acc5, gD4.trans g5, n5, e5, ?_⟩
        have ed : ys.take j = ys := List.take_of_length_le (by omega)
        rw [ed] at pr5
        rw [ek, val_app, ← eys]
        exact pr5
  · refine .inl ⟨wk.stop i F' H' sf g'.fh (by omega), ?_⟩
    have ed : (fx s).take i = fx s := List.take_of_length_le (by omega)
    rw [ed, vfull] at pr
    exact q D (.lst acc) F' H' (g1'.trans back.of0) (hh1.grow back) (g1'.dom D hD) n' e' ⟨acc, rfl, pr, k3⟩
/-- [elt for x in xs for y in ys] without effects and tests -/
theorem DO.lc2 {scope : Scope} {own : List (Str × Nat)} {Δb : Ctx K (S × τ.α)} {Δc : Ctx K ((S × τ.α) × τ1.α)} {fx : S → List τ.α} {fx1 : S × τ.α → List τ1.α} {wi wi1 : TI} {g g1 : TG} {ci : List (S × τ.α → Prop)} {ce : List ((S × τ.α) × τ1.α → Prop)} {fe : (S × τ.α) × τ1.α → τe.α} (hN : X.N.Nodup) (hi : DI K X Δ tg iter τ ms c1 Δ1 fx wi) (ok : BlkOk X.N X.env.scope scope own) (hv : ∀ i ∈ vs1, i ∈ own.map (·.2))
    (hg : ∀ (s : Shared) (H : Hp) (C : Addr) (cl : List (Str × Addr)) (fp : List Addr), DG K (X.blk s H scope (compEnvC scope cl C X.env) fp) (Ctx.comap (T := S × τ.α) Prod.fst (killL Δ1 (own.map (·.2)))) tg τ Prod.snd is Δb g)
    (hi1 : ∀ (s : Shared) (H : Hp) (C : Addr) (cl : List (Str × Addr)) (fp : List Addr), DI K (X.blk s H scope (compEnvC scope cl C X.env) fp) Δb tg1 iter1 τ1 [] ci Δb fx1 wi1)
    (hg1 : ∀ (s : Shared) (H : Hp) (C : Addr) (cl : List (Str × Addr)) (fp : List Addr), DG K (X.blk s H scope (compEnvC scope cl C X.env) fp) (Ctx.comap (T := (S × τ.α) × τ1.α) Prod.fst (killL Δb vs1)) tg1 τ1 Prod.snd is1 Δc g1)
    (he : ∀ (s : Shared) (H : Hp) (C : Addr) (cl : List (Str × Addr)) (fp : List Addr), DX K (X.blk s H scope (compEnvC scope cl C X.env) fp) Δc elt τe [] ce Δc fe te) (his : ∀ j ∈ is, j ∈ own.map (·.2)) (his1 : ∀ j ∈ is1, j ∈ vs1) (hc : X.calm = true := by rfl) (hs : ∀ x, foldedSetIterable iter X.env x = pure x := by intro _; rfl) (hs1 : ∀ env x, foldedSetIterable iter1 env x = pure x := by intro _ _; rfl) :
    DO K X Δ (.ListComp elt [⟨tg, iter, [], 0⟩, ⟨tg1, iter1, [], 0⟩] scope pos) (oList τe) ms (c1 ++ [fun s => ∀ x ∈ fx s, Conj ci (s, x) ∧ ∀ y ∈ fx1 (s, x), Conj ce ((s, x), y), fun s => (lc2V (fx s) (fun x => fx1 (s, x)) (fun x y => fe ((s, x), y))).length ≤ sizeLine]) Δ1 (fun s => lc2V (fx s) (fun x => fx1 (s, x)) (fun x y => fe ((s, x), y))) (tLc2 wi g tYes wi1 g1 tYes te (own.map (·.2)) vs1) :=
  ⟨hi.1, pe_lc2 hc hN hi.2.1 ok hv (fun s H C cl fp => (hg s H C cl fp).2.1) (fun s H C cl fp => pts_nil) (fun s H C cl fp => (hi1 s H C cl fp).2.1) (fun s H C cl fp => (hg1 s H C cl fp).2.1) (fun s H C cl fp => pts_nil) (fun s H C cl fp => (he s H C cl fp).2.1) hs hs1, by
    have s0 : Shared := {}
    exact lc2_sem (is := is) (is1 := is1) hi.2.2 (hg s0 (fun _ => none) 0 [] []).1 (hg s0 (fun _ => none) 0 [] []).2.2 (hi1 s0 (fun _ => none) 0 [] []).2.2 (hg1 s0 (fun _ => none) 0 [] []).1 (hg1 s0 (fun _ => none) 0 [] []).2.2 (he s0 (fun _ => none) 0 [] []).2.2 his his1⟩
/-! ### displays of one and two, as tuples of any length -/
theorem DX.seq1 {e : Expr} {f : S → HL [τ]} {ta : TE} (he : DX K X Δ e (tTp [τ]) ms c1 Δ1 f ta) : DX K X Δ e (tSeq τ) ms c1 Δ1 (fun s => [f s]) ta := by
  obtain ⟨d, p, r⟩ := he
  refine ⟨d, p, fun s F H σ hh sm hc Q q => r s F H σ hh sm hc Q fun v F1 H1 g1 hh1 r1 => q v F1 H1 g1 hh1 ?_⟩
  obtain ⟨a, vs, e, e1, w, e2, e3⟩ := r1
  exact ⟨a, vs, e, e1, by rw [e2]; exact .cons e3 .nil, by show 1 ≤ sizeLine; decide⟩
theorem DX.seq2 {e : Expr} {f : S → HL [τ, τ]} {ta : TE} (he : DX K X Δ e (tTp [τ, τ]) ms c1 Δ1 f ta) : DX K X Δ e (tSeq τ) ms c1 Δ1 (fun s => [(f s).1, (f s).2]) ta := by
  obtain ⟨d, p, r⟩ := he
  refine ⟨d, p, fun s F H σ hh sm hc Q q => r s F H σ hh sm hc Q fun v F1 H1 g1 hh1 r1 => q v F1 H1 g1 hh1 ?_⟩
  obtain ⟨a, vs, e, e1, w, rest, e2, e3, w2, e4, e5⟩ := r1
  exact ⟨a, vs, e, e1, by rw [e2, e4]; exact .cons e3 (.cons e5 .nil), by show 2 ≤ sizeLine; decide⟩
end
end Dx

set_option maxHeartbeats 4000000
namespace Lw
open PySem PySem.Spec PyProof.Rows L2 Dx
abbrev m_law_cells_S : Type := (List Int) × Unit
def m_law_cells (s : m_law_cells_S) : (List Int) := hide ((([((s.1).length : Int)] : List Int) ++ (cutL s.1 none (some (7 : Int)))))
def m_law_cells_p (s : m_law_cells_S) : Prop := Conj [fun s => (([((s.1).length : Int)] : List Int)).length + ((cutL s.1 none (some (7 : Int)))).length ≤ sizeLine] s
abbrev m_law_cells_fm (K : PySem.W.Frag) : Fm K ((List Int)) := ⟨[.fz (tScr K)], .ow (oList (tInt K)), fun r => r, fun _ => ()⟩
abbrev m_law_bag_S : Type := Int × Int × Unit
def m_law_bag_v_size_here_1 (s : m_law_bag_S) : Int := (max s.1 ((0 : Int) - s.1))
def m_law_bag (s : m_law_bag_S) : (List Int) := hide (([(max (0 : Int) ((m_law_bag_v_size_here_1 s) - ((10 : Int) ^ ((18 : Int)).toNat))), (((s.1 * ((1000003 : Int) ^ ((3 : Int)).toNat)) + (((393343123 : Int) ^ ((4 : Int)).toNat) * (s.2.1 + (1 : Int)))) % (((10 : Int) ^ ((42 : Int)).toNat) + (63 : Int))), (0 : Int)] : List Int))
def m_law_bag_p (s : m_law_bag_S) : Prop := Conj [fun s => CPowX (10 : Int) (18 : Int), fun s => CPowX (1000003 : Int) (3 : Int), fun s => CMulX s.1 ((1000003 : Int) ^ ((3 : Int)).toNat), fun s => CPowX (393343123 : Int) (4 : Int), fun s => CMulX ((393343123 : Int) ^ ((4 : Int)).toNat) (s.2.1 + (1 : Int)), fun s => CPowX (10 : Int) (42 : Int), fun s => CPosM ((s.1 * ((1000003 : Int) ^ ((3 : Int)).toNat)) + (((393343123 : Int) ^ ((4 : Int)).toNat) * (s.2.1 + (1 : Int)))) (((10 : Int) ^ ((42 : Int)).toNat) + (63 : Int))] s
abbrev m_law_bag_fm (K : PySem.W.Frag) : Fm K ((List Int)) := ⟨[.fz (tInt K), .fz (tInt K)], .ow (oList (tInt K)), fun r => r, fun _ => ()⟩
abbrev m_law_draw_S : Type := (List Int) × Int × Unit
def m_law_draw_v_found_1 (s : m_law_draw_S) : Int := ((ixI (0 : Int) s.1 (0 : Int)) % s.2.1)
def m_law_draw_v_bag_here_2 (s : m_law_draw_S) : (List Int) := (setI s.1 (0 : Int) ((ixI (0 : Int) s.1 (0 : Int)) / s.2.1))
def m_law_draw_v_bag_here_3 (s : m_law_draw_S) : (List Int) := (setI s.1 (2 : Int) ((ixI (0 : Int) s.1 (2 : Int)) + (1 : Int)))
def m_law_draw_v_mixed_4 (s : m_law_draw_S) : Int := (((ixI (0 : Int) (m_law_draw_v_bag_here_3 s) (1 : Int)) + ((ixI (0 : Int) (m_law_draw_v_bag_here_3 s) (2 : Int)) * ((2971215073 : Int) ^ ((3 : Int)).toNat))) % (((10 : Int) ^ ((42 : Int)).toNat) + (63 : Int)))
def m_law_draw_v_mixed_5 (s : m_law_draw_S) : Int := ((((m_law_draw_v_mixed_4 s) ^ ((3 : Int)).toNat) % (((10 : Int) ^ ((39 : Int)).toNat) + (33 : Int))) + ((ixI (0 : Int) (m_law_draw_v_bag_here_3 s) (2 : Int)) * (39916801 : Int)))
def m_law_draw (s : m_law_draw_S) : (List Int) × Int := hide ((if (decide ((1 : Int) < (ixI (0 : Int) s.1 (0 : Int)))) = true then ((m_law_draw_v_bag_here_2 s), (m_law_draw_v_found_1 s)) else ((m_law_draw_v_bag_here_3 s), (((((m_law_draw_v_mixed_5 s) ^ ((5 : Int)).toNat) % (((10 : Int) ^ ((37 : Int)).toNat) + (43 : Int))) / (65537 : Int)) % s.2.1))))
def m_law_draw_p (s : m_law_draw_S) : Prop := Conj [fun s => IxOk s.1 (0 : Int), fun s => if (decide ((1 : Int) < (ixI (0 : Int) s.1 (0 : Int)))) = true then Conj [fun s => IxOk s.1 (0 : Int), fun s => CPosM (ixI (0 : Int) s.1 (0 : Int)) s.2.1, fun s => IxOk s.1 (0 : Int), fun s => CDivW (ixI (0 : Int) s.1 (0 : Int)) s.2.1, fun s => IxOk s.1 (0 : Int)] s else Conj [fun s => IxOk s.1 (2 : Int), fun s => IxOk s.1 (2 : Int), fun s => IxOk (m_law_draw_v_bag_here_3 s) (1 : Int), fun s => IxOk (m_law_draw_v_bag_here_3 s) (2 : Int), fun s => CPowX (2971215073 : Int) (3 : Int), fun s => CMulX (ixI (0 : Int) (m_law_draw_v_bag_here_3 s) (2 : Int)) ((2971215073 : Int) ^ ((3 : Int)).toNat), fun s => CPowX (10 : Int) (42 : Int), fun s => CPosM ((ixI (0 : Int) (m_law_draw_v_bag_here_3 s) (1 : Int)) + ((ixI (0 : Int) (m_law_draw_v_bag_here_3 s) (2 : Int)) * ((2971215073 : Int) ^ ((3 : Int)).toNat))) (((10 : Int) ^ ((42 : Int)).toNat) + (63 : Int)), fun s => CPowX (m_law_draw_v_mixed_4 s) (3 : Int), fun s => CPowX (10 : Int) (39 : Int), fun s => CPosM ((m_law_draw_v_mixed_4 s) ^ ((3 : Int)).toNat) (((10 : Int) ^ ((39 : Int)).toNat) + (33 : Int)), fun s => IxOk (m_law_draw_v_bag_here_3 s) (2 : Int), fun s => CMulX (ixI (0 : Int) (m_law_draw_v_bag_here_3 s) (2 : Int)) (39916801 : Int), fun s => CPowX (m_law_draw_v_mixed_5 s) (5 : Int), fun s => CPowX (10 : Int) (37 : Int), fun s => CPosM ((m_law_draw_v_mixed_5 s) ^ ((5 : Int)).toNat) (((10 : Int) ^ ((37 : Int)).toNat) + (43 : Int)), fun s => CDivW (((m_law_draw_v_mixed_5 s) ^ ((5 : Int)).toNat) % (((10 : Int) ^ ((37 : Int)).toNat) + (43 : Int))) (65537 : Int), fun s => CPosM ((((m_law_draw_v_mixed_5 s) ^ ((5 : Int)).toNat) % (((10 : Int) ^ ((37 : Int)).toNat) + (43 : Int))) / (65537 : Int)) s.2.1] s] s
abbrev m_law_draw_fm (K : PySem.W.Frag) : Fm K ((List Int) × Int) := ⟨[.mu (oList (tInt K)), .fz (tInt K)], .fz (tInt K), fun r => r.2, fun r => (r.1, ())⟩
abbrev m_law_size_S : Type := (List Int) × (List Int) × Unit
def m_law_size_c1 (s : m_law_size_S) : (List Int) × Int := m_law_draw (s.2.1, (7 : Int), ())
def m_law_size_c2 (s : m_law_size_S) : (List Int) × Int := m_law_draw ((m_law_size_c1 s).1, (60 : Int), ())
def m_law_size_c3 (s : m_law_size_S) : (List Int) × Int := m_law_draw ((m_law_size_c2 s).1, (3 : Int), ())
def m_law_size_c4 (s : m_law_size_S) : (List Int) × Int := m_law_draw ((m_law_size_c3 s).1, (3 : Int), ())
def m_law_size (s : m_law_size_S) : (List Int) × Int := hide ((if (((dfList dfInt)).eq s.1 ([] : List Int)) = true then (s.2.1, (7 : Int)) else ((m_law_size_c4 s).1, (ixI (0 : Int) ([((1 : Int) + (m_law_size_c1 s).2), ((1 : Int) + (m_law_size_c2 s).2), (((10 : Int) ^ ((30 : Int)).toNat) - (m_law_size_c3 s).2)] : List Int) (m_law_size_c4 s).2))))
def m_law_size_p (s : m_law_size_S) : Prop := Conj [fun s => if (((dfList dfInt)).eq s.1 ([] : List Int)) = true then Conj [] s else Conj [fun s => m_law_draw_p (s.2.1, (7 : Int), ()), fun s => m_law_draw_p ((m_law_size_c1 s).1, (60 : Int), ()), fun s => CPowX (10 : Int) (30 : Int), fun s => m_law_draw_p ((m_law_size_c2 s).1, (3 : Int), ()), fun s => m_law_draw_p ((m_law_size_c3 s).1, (3 : Int), ()), fun s => IxOk ([((1 : Int) + (m_law_size_c1 s).2), ((1 : Int) + (m_law_size_c2 s).2), (((10 : Int) ^ ((30 : Int)).toNat) - (m_law_size_c3 s).2)] : List Int) (m_law_size_c4 s).2] s] s
abbrev m_law_size_fm (K : PySem.W.Frag) : Fm K ((List Int) × Int) := ⟨[.fz (tScr K), .mu (oList (tInt K))], .fz (tInt K), fun r => r.2, fun r => (r.1, ())⟩
abbrev m_law_runs_S : Type := (List Int) × Int × Int × Unit
def m_law_runs_c1 (s : m_law_runs_S) : (List Int) × Int := m_law_draw (s.1, (3 : Int), ())
def m_law_runs_c2 (s : m_law_runs_S) : (List Int) × Int := m_law_draw ((m_law_runs_c1 s).1, (2 : Int), ())
def m_law_runs_v_found_3 (s : m_law_runs_S) : (List (Int × Int)) := ([] : List (Int × Int))
def m_law_runs_v_here_4 (s : m_law_runs_S) : Int := ((m_law_runs_c1 s).2 * (m_law_runs_c2 s).2)
def m_law_runs_c5 (s : m_law_runs_S) : (List Int) × Int := m_law_draw ((m_law_runs_c2 s).1, (3 : Int), ())
def m_law_runs_v_wide_6 (s : m_law_runs_S) : Int := (ixI (0 : Int) ([(1 : Int), (3 : Int), (max (1 : Int) (s.2.1 / (40 : Int)))] : List Int) (m_law_runs_c5 s).2)
def m_law_runs_c7 (s : m_law_runs_S) : (List Int) × Int := m_law_draw ((m_law_runs_c5 s).1, s.2.2.1, ())
abbrev m_law_runs_L8M : Type := ((List Int) × (List (Int × Int)) × Int)
def m_law_runs_L8x (s : m_law_runs_S) : List Int := (rangeL ((1 : Int) + (m_law_runs_c7 s).2))
def m_law_runs_L8i (s : m_law_runs_S) : m_law_runs_L8M := ((m_law_runs_c7 s).1, (m_law_runs_v_found_3 s), (m_law_runs_v_here_4 s))
abbrev m_law_runs_L8T : Type := (m_law_runs_S × m_law_runs_L8M) × Int
def m_law_runs_c9 (s : m_law_runs_L8T) : (List Int) × Int := m_law_draw (s.1.2.1, (m_law_runs_v_wide_6 s.1.1), ())
def m_law_runs_v_last_10 (s : m_law_runs_L8T) : Int := (s.1.2.2.2 + (m_law_runs_c9 s).2)
def m_law_runs_v_found_11 (s : m_law_runs_L8T) : (List (Int × Int)) := (s.1.2.2.1 ++ [(s.1.2.2.2, (m_law_runs_v_last_10 s))])
def m_law_runs_h12 (s : m_law_runs_L8T) : Bool := (decide ((m_law_runs_v_last_10 s) < s.1.1.2.1))
def m_law_runs_v_found_13 (s : m_law_runs_L8T) : (List (Int × Int)) := (if (m_law_runs_h12 s) = true then (m_law_runs_v_found_11 s) else s.1.2.2.1)
def m_law_runs_c14 (s : m_law_runs_L8T) : (List Int) × Int := m_law_draw ((m_law_runs_c9 s).1, (2 : Int), ())
def m_law_runs_c15 (s : m_law_runs_L8T) : (List Int) × Int := m_law_draw ((m_law_runs_c14 s).1, (ixI (0 : Int) ([(1 : Int), (m_law_runs_v_wide_6 s.1.1)] : List Int) (m_law_runs_c14 s).2), ())
def m_law_runs_v_here_16 (s : m_law_runs_L8T) : Int := (((m_law_runs_v_last_10 s) + (2 : Int)) + (m_law_runs_c15 s).2)
def m_law_runs_L8s (s : m_law_runs_L8T) : m_law_runs_L8M := ((m_law_runs_c15 s).1, (m_law_runs_v_found_13 s), (m_law_runs_v_here_16 s))
def m_law_runs_L8c (s : m_law_runs_L8T) : Prop := Conj [fun s => m_law_draw_p (s.1.2.1, (m_law_runs_v_wide_6 s.1.1), ()), fun s => (m_law_runs_h12 s) = true → (s.1.2.2.1).length < sizeLine, fun s => m_law_draw_p ((m_law_runs_c9 s).1, (2 : Int), ()), fun s => IxOk ([(1 : Int), (m_law_runs_v_wide_6 s.1.1)] : List Int) (m_law_runs_c14 s).2, fun s => m_law_draw_p ((m_law_runs_c14 s).1, (ixI (0 : Int) ([(1 : Int), (m_law_runs_v_wide_6 s.1.1)] : List Int) (m_law_runs_c14 s).2), ())] s
def m_law_runs_L8 (s : m_law_runs_S) : m_law_runs_L8M := LoopF (fun m x => m_law_runs_L8s ((s, m), x)) (m_law_runs_L8x s) (m_law_runs_L8i s)
def m_law_runs_c17 (s : m_law_runs_S) : (List Int) × Int := m_law_draw ((m_law_runs_L8 s).1, (4 : Int), ())
def m_law_runs_v_bag_here_18 (s : m_law_runs_S) : (List Int) := (if (!((dfList (dfT2 dfInt dfInt))).eq (m_law_runs_L8 s).2.1 ([] : List (Int × Int))) = true then (m_law_runs_c17 s).1 else (m_law_runs_L8 s).1)
def m_law_runs_v_found_19 (s : m_law_runs_S) : (List (Int × Int)) := (setI (m_law_runs_L8 s).2.1 (-(1 : Int)) ((ixI ((0 : Int), (0 : Int)) (m_law_runs_L8 s).2.1 (-(1 : Int))).1, (s.2.1 - (1 : Int))))
def m_law_runs_h20 (s : m_law_runs_S) : Bool := ((!((dfList (dfT2 dfInt dfInt))).eq (m_law_runs_L8 s).2.1 ([] : List (Int × Int))) && ((dfInt).eq (m_law_runs_c17 s).2 (0 : Int)))
def m_law_runs_v_found_21 (s : m_law_runs_S) : (List (Int × Int)) := (if (m_law_runs_h20 s) = true then (m_law_runs_v_found_19 s) else (m_law_runs_L8 s).2.1)
def m_law_runs (s : m_law_runs_S) : (List Int) × (List (Int × Int)) := hide (((m_law_runs_v_bag_here_18 s), (m_law_runs_v_found_21 s)))
def m_law_runs_p (s : m_law_runs_S) : Prop := Conj [fun s => m_law_draw_p (s.1, (3 : Int), ()), fun s => m_law_draw_p ((m_law_runs_c1 s).1, (2 : Int), ()), fun s => CMulX (m_law_runs_c1 s).2 (m_law_runs_c2 s).2, fun s => CDivW s.2.1 (40 : Int), fun s => m_law_draw_p ((m_law_runs_c2 s).1, (3 : Int), ()), fun s => IxOk ([(1 : Int), (3 : Int), (max (1 : Int) (s.2.1 / (40 : Int)))] : List Int) (m_law_runs_c5 s).2, fun s => m_law_draw_p ((m_law_runs_c5 s).1, s.2.2.1, ()), fun s => RgOk ((1 : Int) + (m_law_runs_c7 s).2), fun s => loopC (fun m x => m_law_runs_L8c ((s, m), x)) (fun m x => m_law_runs_L8s ((s, m), x)) (m_law_runs_L8x s) (m_law_runs_L8i s), fun s => (!((dfList (dfT2 dfInt dfInt))).eq (m_law_runs_L8 s).2.1 ([] : List (Int × Int))) = true → m_law_draw_p ((m_law_runs_L8 s).1, (4 : Int), ()), fun s => (m_law_runs_h20 s) = true → IxOk (m_law_runs_L8 s).2.1 (-(1 : Int)), fun s => (m_law_runs_h20 s) = true → IxOk (m_law_runs_L8 s).2.1 (-(1 : Int))] s
abbrev m_law_runs_fm (K : PySem.W.Frag) : Fm K ((List Int) × (List (Int × Int))) := ⟨[.mu (oList (tInt K)), .fz (tInt K), .fz (tInt K)], .ow (oList (tTp [(tInt K), (tInt K)])), fun r => r.2, fun r => (r.1, ())⟩
abbrev mis_integer_S : Type := Int × Int × Int × Unit
def mis_integer (s : mis_integer_S) : Bool := hide ((true && ((!false) && (pLe s.2.1 s.1 && pLe s.1 s.2.2.1))))
def mis_integer_p (s : mis_integer_S) : Prop := Conj [] s
abbrev mis_integer_fm (K : PySem.W.Frag) : Fm K (Bool) := ⟨[.fz (tInt K), .fz (tInt K), .fz (tInt K)], .fz (tBool K), fun r => r, fun _ => ()⟩
abbrev mcheck_items_S : Type := Int × Unit
def mcheck_items_c1 (s : mcheck_items_S) : Bool := mis_integer (s.1, (1 : Int), (1000000000000000000000000000000 : Int), ())
def mcheck_items (s : mcheck_items_S) : Unit := hide (())
def mcheck_items_p (s : mcheck_items_S) : Prop := Conj [fun s => mis_integer_p (s.1, (1 : Int), (1000000000000000000000000000000 : Int), ()), fun s => (!(mcheck_items_c1 s)) = true → False] s
abbrev mcheck_items_fm (K : PySem.W.Frag) : Fm K (Unit) := ⟨[.fz (tInt K)], .fz (tNone K), fun r => r, fun _ => ()⟩
abbrev mis_run_S : Type := Int × (Int × Int) × Unit
def mis_run_c1 (s : mis_run_S) : Bool := mis_integer (s.2.1.1, (0 : Int), (s.1 - (1 : Int)), ())
def mis_run_c2 (s : mis_run_S) : Bool := mis_integer (s.2.1.2, s.2.1.1, (s.1 - (1 : Int)), ())
def mis_run (s : mis_run_S) : Bool := hide ((if ((!true) || ((!(dfInt).eq (2 : Int) (2 : Int)) || (!(mis_run_c1 s)))) = true then false else (mis_run_c2 s)))
def mis_run_p (s : mis_run_S) : Prop := Conj [fun s => (!true) = false → (!(dfInt).eq (2 : Int) (2 : Int)) = false → mis_integer_p (s.2.1.1, (0 : Int), (s.1 - (1 : Int)), ()), fun s => if ((!true) || ((!(dfInt).eq (2 : Int) (2 : Int)) || (!(mis_run_c1 s)))) = true then Conj [] s else Conj [fun s => mis_integer_p (s.2.1.2, s.2.1.1, (s.1 - (1 : Int)), ())] s] s
abbrev mis_run_fm (K : PySem.W.Frag) : Fm K (Bool) := ⟨[.fz (tInt K), .fz (tTp [(tInt K), (tInt K)])], .fz (tBool K), fun r => r, fun _ => ()⟩
abbrev mare_runs_S : Type := Int × (List (Int × Int)) × Unit
def mare_runs_c1 (s : (mare_runs_S × (Int × Int))) : Bool := mis_run (s.1.1, s.2, ())
def mare_runs (s : mare_runs_S) : Bool := hide ((if ((!true) || (!(((lcV s.2.1 (fun x => true) (fun x => (mare_runs_c1 (s, x))))).all id))) = true then false else (((lcV (List.zip s.2.1 (cutL s.2.1 (some (1 : Int)) none)) (fun x => true) (fun x => (decide (((s, x).2.1.2 + (1 : Int)) < (s, x).2.2.1))))).all id)))
def mare_runs_p (s : mare_runs_S) : Prop := Conj [fun s => (!true) = false → ∀ x ∈ s.2.1, Conj [] (s, x) ∧ (true = true → Conj [fun s => mis_run_p (s.1.1, s.2, ())] (s, x)), fun s => if ((!true) || (!(((lcV s.2.1 (fun x => true) (fun x => (mare_runs_c1 (s, x))))).all id))) = true then Conj [] s else Conj [fun s => ∀ x ∈ (List.zip s.2.1 (cutL s.2.1 (some (1 : Int)) none)), Conj [] (s, x) ∧ (true = true → Conj [] (s, x))] s] s
abbrev mare_runs_fm (K : PySem.W.Frag) : Fm K (Bool) := ⟨[.fz (tInt K), .fz (tList (tTp [(tInt K), (tInt K)]))], .fz (tBool K), fun r => r, fun _ => ()⟩
abbrev mcheck_selection_S : Type := Int × (List (Int × Int)) × Unit
def mcheck_selection_c1 (s : mcheck_selection_S) : Bool := mare_runs (s.1, s.2.1, ())
def mcheck_selection (s : mcheck_selection_S) : Unit := hide (())
def mcheck_selection_p (s : mcheck_selection_S) : Prop := Conj [fun s => mare_runs_p (s.1, s.2.1, ()), fun s => (!(mcheck_selection_c1 s)) = true → False] s
abbrev mcheck_selection_fm (K : PySem.W.Frag) : Fm K (Unit) := ⟨[.fz (tInt K), .fz (tList (tTp [(tInt K), (tInt K)]))], .fz (tNone K), fun r => r, fun _ => ()⟩
abbrev mborders_in_S : Type := (List (Int × Int)) × Unit
def mborders_in_v_borders_1 (s : mborders_in_S) : (List Int) := ([] : List Int)
abbrev mborders_in_L2M : Type := (List Int)
def mborders_in_L2x (s : mborders_in_S) : List (Int × Int) := s.1
def mborders_in_L2i (s : mborders_in_S) : mborders_in_L2M := ((mborders_in_v_borders_1 s))
abbrev mborders_in_L2T : Type := (mborders_in_S × mborders_in_L2M) × (Int × Int)
def mborders_in_v_borders_3 (s : mborders_in_L2T) : (List Int) := (s.1.2 ++ ([s.2.1, (s.2.2 + (1 : Int))] : List Int))
def mborders_in_L2s (s : mborders_in_L2T) : mborders_in_L2M := ((mborders_in_v_borders_3 s))
def mborders_in_L2c (s : mborders_in_L2T) : Prop := Conj [fun s => (s.1.2).length + (([s.2.1, (s.2.2 + (1 : Int))] : List Int)).length ≤ sizeLine] s
def mborders_in_L2 (s : mborders_in_S) : mborders_in_L2M := LoopF (fun m x => mborders_in_L2s ((s, m), x)) (mborders_in_L2x s) (mborders_in_L2i s)
def mborders_in (s : mborders_in_S) : (List Int) := hide ((mborders_in_L2 s))
def mborders_in_p (s : mborders_in_S) : Prop := Conj [fun s => loopC (fun m x => mborders_in_L2c ((s, m), x)) (fun m x => mborders_in_L2s ((s, m), x)) (mborders_in_L2x s) (mborders_in_L2i s)] s
abbrev mborders_in_fm (K : PySem.W.Frag) : Fm K ((List Int)) := ⟨[.fz (tList (tTp [(tInt K), (tInt K)]))], .ow (oList (tInt K)), fun r => r, fun _ => ()⟩
abbrev mblocks_in_S : Type := (List Int) × Unit
def mblocks_in_v_blocks_1 (s : mblocks_in_S) : (List (Int × Int)) := ([] : List (Int × Int))
abbrev mblocks_in_L2M : Type := (List (Int × Int))
def mblocks_in_L2x (s : mblocks_in_S) : List Int := s.1
def mblocks_in_L2i (s : mblocks_in_S) : mblocks_in_L2M := ((mblocks_in_v_blocks_1 s))
abbrev mblocks_in_L2T : Type := (mblocks_in_S × mblocks_in_L2M) × Int
def mblocks_in_v_blocks_3 (s : mblocks_in_L2T) : (List (Int × Int)) := (setI s.1.2 (-(1 : Int)) ((ixI ((0 : Int), (0 : Int)) s.1.2 (-(1 : Int))).1, s.2))
def mblocks_in_v_blocks_4 (s : mblocks_in_L2T) : (List (Int × Int)) := (s.1.2 ++ [(s.2, s.2)])
def mblocks_in_h5 (s : mblocks_in_L2T) : Bool := ((!((dfList (dfT2 dfInt dfInt))).eq s.1.2 ([] : List (Int × Int))) && ((dfInt).eq ((ixI ((0 : Int), (0 : Int)) s.1.2 (-(1 : Int))).2 + (1 : Int)) s.2))
def mblocks_in_v_blocks_6 (s : mblocks_in_L2T) : (List (Int × Int)) := (if (mblocks_in_h5 s) = true then (mblocks_in_v_blocks_3 s) else (mblocks_in_v_blocks_4 s))
def mblocks_in_L2s (s : mblocks_in_L2T) : mblocks_in_L2M := ((mblocks_in_v_blocks_6 s))
def mblocks_in_L2c (s : mblocks_in_L2T) : Prop := Conj [fun s => (!((dfList (dfT2 dfInt dfInt))).eq s.1.2 ([] : List (Int × Int))) = true → IxOk s.1.2 (-(1 : Int)), fun s => (mblocks_in_h5 s) = true → IxOk s.1.2 (-(1 : Int)), fun s => (mblocks_in_h5 s) = true → IxOk s.1.2 (-(1 : Int)), fun s => (mblocks_in_h5 s) = false → (s.1.2).length < sizeLine] s
def mblocks_in_L2 (s : mblocks_in_S) : mblocks_in_L2M := LoopF (fun m x => mblocks_in_L2s ((s, m), x)) (mblocks_in_L2x s) (mblocks_in_L2i s)
def mblocks_in (s : mblocks_in_S) : (List (Int × Int)) := hide ((mblocks_in_L2 s))
def mblocks_in_p (s : mblocks_in_S) : Prop := Conj [fun s => loopC (fun m x => mblocks_in_L2c ((s, m), x)) (fun m x => mblocks_in_L2s ((s, m), x)) (mblocks_in_L2x s) (mblocks_in_L2i s)] s
abbrev mblocks_in_fm (K : PySem.W.Frag) : Fm K ((List (Int × Int))) := ⟨[.fz (tList (tInt K))], .ow (oList (tTp [(tInt K), (tInt K)])), fun r => r, fun _ => ()⟩
abbrev mcost_of_borders_S : Type := (List Int) × Unit
def mcost_of_borders_c1 (s : mcost_of_borders_S) : (List (Int × Int)) := mblocks_in (s.1, ())
def mcost_of_borders (s : mcost_of_borders_S) : Int := hide (((lcV (mcost_of_borders_c1 s) (fun x => true) (fun x => ((((s, x).2.2 - (s, x).2.1) + (2 : Int)) / (2 : Int))))).sum)
def mcost_of_borders_p (s : mcost_of_borders_S) : Prop := Conj [fun s => mblocks_in_p (s.1, ()), fun s => ∀ x ∈ (mcost_of_borders_c1 s), Conj [] (s, x) ∧ (true = true → Conj [fun s => CDivW ((s.2.2 - s.2.1) + (2 : Int)) (2 : Int)] (s, x))] s
abbrev mcost_of_borders_fm (K : PySem.W.Frag) : Fm K (Int) := ⟨[.fz (tList (tInt K))], .fz (tInt K), fun r => r, fun _ => ()⟩
abbrev mcost_of_S : Type := (List (Int × Int)) × Unit
def mcost_of_c1 (s : mcost_of_S) : (List Int) := mborders_in (s.1, ())
def mcost_of_c2 (s : mcost_of_S) : Int := mcost_of_borders ((mcost_of_c1 s), ())
def mcost_of (s : mcost_of_S) : Int := hide ((mcost_of_c2 s))
def mcost_of_p (s : mcost_of_S) : Prop := Conj [fun s => mborders_in_p (s.1, ()), fun s => mcost_of_borders_p ((mcost_of_c1 s), ())] s
abbrev mcost_of_fm (K : PySem.W.Frag) : Fm K (Int) := ⟨[.fz (tList (tTp [(tInt K), (tInt K)]))], .fz (tInt K), fun r => r, fun _ => ()⟩
abbrev mcost_S : Type := Int × (List (Int × Int)) × Unit
def mcost_c1 (s : mcost_S) : Unit := mcheck_items (s.1, ())
def mcost_c2 (s : mcost_S) : Unit := mcheck_selection (s.1, s.2.1, ())
def mcost_c3 (s : mcost_S) : Int := mcost_of (s.2.1, ())
def mcost (s : mcost_S) : Int := hide ((mcost_c3 s))
def mcost_p (s : mcost_S) : Prop := Conj [fun s => mcheck_items_p (s.1, ()), fun s => mcheck_selection_p (s.1, s.2.1, ()), fun s => mcost_of_p (s.2.1, ())] s
abbrev mcost_fm (K : PySem.W.Frag) : Fm K (Int) := ⟨[.fz (tInt K), .fz (tList (tTp [(tInt K), (tInt K)]))], .fz (tInt K), fun r => r, fun _ => ()⟩
abbrev mborders_of_S : Type := Int × (List (Int × Int)) × Unit
def mborders_of_c1 (s : mborders_of_S) : Unit := mcheck_items (s.1, ())
def mborders_of_c2 (s : mborders_of_S) : Unit := mcheck_selection (s.1, s.2.1, ())
def mborders_of_c3 (s : mborders_of_S) : (List Int) := mborders_in (s.2.1, ())
def mborders_of (s : mborders_of_S) : (List Int) := hide ((mborders_of_c3 s))
def mborders_of_p (s : mborders_of_S) : Prop := Conj [fun s => mcheck_items_p (s.1, ()), fun s => mcheck_selection_p (s.1, s.2.1, ()), fun s => mborders_in_p (s.2.1, ())] s
abbrev mborders_of_fm (K : PySem.W.Frag) : Fm K ((List Int)) := ⟨[.fz (tInt K), .fz (tList (tTp [(tInt K), (tInt K)]))], .ow (oList (tInt K)), fun r => r, fun _ => ()⟩
abbrev mblocks_of_S : Type := Int × (List (Int × Int)) × Unit
def mblocks_of_c1 (s : mblocks_of_S) : Unit := mcheck_items (s.1, ())
def mblocks_of_c2 (s : mblocks_of_S) : Unit := mcheck_selection (s.1, s.2.1, ())
def mblocks_of_c3 (s : mblocks_of_S) : (List Int) := mborders_in (s.2.1, ())
def mblocks_of_c4 (s : mblocks_of_S) : (List (Int × Int)) := mblocks_in ((mblocks_of_c3 s), ())
def mblocks_of (s : mblocks_of_S) : (List (Int × Int)) := hide ((mblocks_of_c4 s))
def mblocks_of_p (s : mblocks_of_S) : Prop := Conj [fun s => mcheck_items_p (s.1, ()), fun s => mcheck_selection_p (s.1, s.2.1, ()), fun s => mborders_in_p (s.2.1, ()), fun s => mblocks_in_p ((mblocks_of_c3 s), ())] s
abbrev mblocks_of_fm (K : PySem.W.Frag) : Fm K ((List (Int × Int))) := ⟨[.fz (tInt K), .fz (tList (tTp [(tInt K), (tInt K)]))], .ow (oList (tTp [(tInt K), (tInt K)])), fun r => r, fun _ => ()⟩
abbrev mcheck_list_S : Type := Int × (List (Int × Int)) × Unit
def mcheck_list_c1 (s : mcheck_list_S) : Unit := mcheck_items (s.1, ())
def mcheck_list_c2 (s : mcheck_list_S) : Unit := mcheck_selection (s.1, s.2.1, ())
def mcheck_list (s : mcheck_list_S) : Unit := hide (())
def mcheck_list_p (s : mcheck_list_S) : Prop := Conj [fun s => mcheck_items_p (s.1, ()), fun s => mcheck_selection_p (s.1, s.2.1, ())] s
abbrev mcheck_list_fm (K : PySem.W.Frag) : Fm K (Unit) := ⟨[.fz (tInt K), .fz (tList (tTp [(tInt K), (tInt K)]))], .fz (tNone K), fun r => r, fun _ => ()⟩
abbrev mblocks_with_S : Type := (List (Int × Int)) × Unit
def mblocks_with_c1 (s : mblocks_with_S) : (List Int) := mborders_in (s.1, ())
def mblocks_with_c2 (s : mblocks_with_S) : (List (Int × Int)) := mblocks_in ((mblocks_with_c1 s), ())
def mblocks_with (s : mblocks_with_S) : (List (Int × Int)) := hide ((mblocks_with_c2 s))
def mblocks_with_p (s : mblocks_with_S) : Prop := Conj [fun s => mborders_in_p (s.1, ()), fun s => mblocks_in_p ((mblocks_with_c1 s), ())] s
abbrev mblocks_with_fm (K : PySem.W.Frag) : Fm K ((List (Int × Int))) := ⟨[.fz (tList (tTp [(tInt K), (tInt K)]))], .ow (oList (tTp [(tInt K), (tInt K)])), fun r => r, fun _ => ()⟩
abbrev mtokens_in_S : Type := (Int × Int) × Int × Unit
def mtokens_in_t1 (s : mtokens_in_S) : (Int × Int) := s.1
def mtokens_in_v_single_2 (s : mtokens_in_S) : (Option Int) := (if ((dfInt).eq (((mtokens_in_t1 s).2 - (mtokens_in_t1 s).1) % (2 : Int)) (0 : Int)) = true then (some ((mtokens_in_t1 s).1 + ((2 : Int) * s.2.1))) else none)
def mtokens_in_v_found_3 (s : mtokens_in_S) : (List (List Int)) := ([] : List (List Int))
abbrev mtokens_in_L4M : Type := ((List (List Int)) × Int)
def mtokens_in_L4i (s : mtokens_in_S) : mtokens_in_L4M := ((mtokens_in_v_found_3 s), (mtokens_in_t1 s).1)
abbrev mtokens_in_L4T : Type := (mtokens_in_S × mtokens_in_L4M) × Unit
def mtokens_in_v_token_5 (s : mtokens_in_L4T) : (List Int) := (if (((dfOpt dfInt)).eq (some s.1.2.2) (mtokens_in_v_single_2 s.1.1)) = true then [(s.1.2.2)] else [(s.1.2.2, (s.1.2.2 + (1 : Int))).1, (s.1.2.2, (s.1.2.2 + (1 : Int))).2])
def mtokens_in_v_found_6 (s : mtokens_in_L4T) : (List (List Int)) := (s.1.2.1 ++ [(mtokens_in_v_token_5 s)])
def mtokens_in_v_border_7 (s : mtokens_in_L4T) : Int := (s.1.2.2 + (((mtokens_in_v_token_5 s)).length : Int))
def mtokens_in_L4h (s : mtokens_in_L4T) : Bool := (decide (s.1.2.2 ≤ (mtokens_in_t1 s.1.1).2))
def mtokens_in_L4t (s : mtokens_in_L4T) : Prop := Conj [] s
def mtokens_in_L4s (s : mtokens_in_L4T) : mtokens_in_L4M := ((mtokens_in_v_found_6 s), (mtokens_in_v_border_7 s))
def mtokens_in_L4c (s : mtokens_in_L4T) : Prop := Conj [fun s => (s.1.2.1).length < sizeLine] s
def mtokens_in_L4 (s : mtokens_in_S) : mtokens_in_L4M := LoopW (fun m => mtokens_in_L4h ((s, m), ())) (fun m => mtokens_in_L4s ((s, m), ())) (mtokens_in_L4i s)
def mtokens_in (s : mtokens_in_S) : (List (List Int)) := hide ((mtokens_in_L4 s).1)
def mtokens_in_p (s : mtokens_in_S) : Prop := Conj [fun s => CPosM ((mtokens_in_t1 s).2 - (mtokens_in_t1 s).1) (2 : Int), fun s => ((dfInt).eq (((mtokens_in_t1 s).2 - (mtokens_in_t1 s).1) % (2 : Int)) (0 : Int)) = true → CMulX (2 : Int) s.2.1, fun s => whileC (fun m => mtokens_in_L4t ((s, m), ())) (fun m => mtokens_in_L4h ((s, m), ())) (fun m => mtokens_in_L4c ((s, m), ())) (fun m => mtokens_in_L4s ((s, m), ())) turns (mtokens_in_L4i s)] s
abbrev mtokens_in_fm (K : PySem.W.Frag) : Fm K ((List (List Int))) := ⟨[.fz (tTp [(tInt K), (tInt K)]), .fz (tInt K)], .ow (oList (tSeq (tInt K))), fun r => r, fun _ => ()⟩
abbrev mcover_with_S : Type := (List (Int × Int)) × (List Int) × Unit
def mcover_with_c1 (s : (mcover_with_S × ((Int × Int) × Int))) : (List (List Int)) := mtokens_in (s.2.1, s.2.2, ())
def mcover_with (s : mcover_with_S) : (List (List Int)) := hide ((lc2V (List.zip s.1 s.2.1) (fun x => (mcover_with_c1 (s, x))) (fun x y => ((s, x), y).2)))
def mcover_with_p (s : mcover_with_S) : Prop := Conj [fun s => ∀ x ∈ (List.zip s.1 s.2.1), Conj [fun s => mtokens_in_p (s.2.1, s.2.2, ())] (s, x) ∧ ∀ y ∈ (mcover_with_c1 (s, x)), Conj [] ((s, x), y), fun s => ((lc2V (List.zip s.1 s.2.1) (fun x => (mcover_with_c1 (s, x))) (fun x y => ((s, x), y).2))).length ≤ sizeLine] s
abbrev mcover_with_fm (K : PySem.W.Frag) : Fm K ((List (List Int))) := ⟨[.fz (tList (tTp [(tInt K), (tInt K)])), .fz (tList (tInt K))], .ow (oList (tSeq (tInt K))), fun r => r, fun _ => ()⟩
abbrev mbest_cover_S : Type := (List (Int × Int)) × Unit
def mbest_cover_c1 (s : mbest_cover_S) : (List (Int × Int)) := mblocks_with (s.1, ())
def mbest_cover_c2 (s : mbest_cover_S) : (List (List Int)) := mcover_with ((mbest_cover_c1 s), (repL ([(0 : Int)] : List Int) (((mbest_cover_c1 s)).length : Int)), ())
def mbest_cover (s : mbest_cover_S) : (List (List Int)) := hide ((mbest_cover_c2 s))
def mbest_cover_p (s : mbest_cover_S) : Prop := Conj [fun s => mblocks_with_p (s.1, ()), fun s => RepOk ([(0 : Int)] : List Int) (((mbest_cover_c1 s)).length : Int), fun s => mcover_with_p ((mbest_cover_c1 s), (repL ([(0 : Int)] : List Int) (((mbest_cover_c1 s)).length : Int)), ())] s
abbrev mbest_cover_fm (K : PySem.W.Frag) : Fm K ((List (List Int))) := ⟨[.fz (tList (tTp [(tInt K), (tInt K)]))], .ow (oList (tSeq (tInt K))), fun r => r, fun _ => ()⟩
abbrev mclicks_of_S : Type := (List (List Int)) × Unit
def mclicks_of_v_singles_1 (s : mclicks_of_S) : (List Int) := (lcV s.1 (fun x => ((dfInt).eq (((s, x).2).length : Int) (1 : Int))) (fun x => (ixI (0 : Int) (s, x).2 (0 : Int))))
def mclicks_of_v_found_2 (s : mclicks_of_S) : (List (Str × Int)) := ([] : List (Str × Int))
abbrev mclicks_of_L3M : Type := (List (Str × Int))
def mclicks_of_L3x (s : mclicks_of_S) : List (Int × Int) := (List.zip (stepL (mclicks_of_v_singles_1 s) none none (some (2 : Int))) (stepL (mclicks_of_v_singles_1 s) (some (1 : Int)) none (some (2 : Int))))
def mclicks_of_L3i (s : mclicks_of_S) : mclicks_of_L3M := ((mclicks_of_v_found_2 s))
abbrev mclicks_of_L3T : Type := (mclicks_of_S × mclicks_of_L3M) × (Int × Int)
def mclicks_of_v_found_4 (s : mclicks_of_L3T) : (List (Str × Int)) := (s.1.2 ++ ([(("click" : Str), s.2.1), (("range" : Str), (s.2.2 - (1 : Int)))] : List (Str × Int)))
def mclicks_of_L3s (s : mclicks_of_L3T) : mclicks_of_L3M := ((mclicks_of_v_found_4 s))
def mclicks_of_L3c (s : mclicks_of_L3T) : Prop := Conj [fun s => (s.1.2).length + (([(("click" : Str), s.2.1), (("range" : Str), (s.2.2 - (1 : Int)))] : List (Str × Int))).length ≤ sizeLine] s
def mclicks_of_L3 (s : mclicks_of_S) : mclicks_of_L3M := LoopF (fun m x => mclicks_of_L3s ((s, m), x)) (mclicks_of_L3x s) (mclicks_of_L3i s)
def mclicks_of (s : mclicks_of_S) : (List (Str × Int)) := hide (((mclicks_of_L3 s) ++ (lcV s.1 (fun x => ((dfInt).eq (((s, x).2).length : Int) (2 : Int))) (fun x => (("click" : Str), (ixI (0 : Int) (s, x).2 (0 : Int)))))))
def mclicks_of_p (s : mclicks_of_S) : Prop := Conj [fun s => ∀ x ∈ s.1, Conj [] (s, x) ∧ (((dfInt).eq (((s, x).2).length : Int) (1 : Int)) = true → Conj [fun s => IxOk s.2 (0 : Int)] (s, x)), fun s => loopC (fun m x => mclicks_of_L3c ((s, m), x)) (fun m x => mclicks_of_L3s ((s, m), x)) (mclicks_of_L3x s) (mclicks_of_L3i s), fun s => ∀ x ∈ s.1, Conj [] (s, x) ∧ (((dfInt).eq (((s, x).2).length : Int) (2 : Int)) = true → Conj [fun s => IxOk s.2 (0 : Int)] (s, x)), fun s => ((mclicks_of_L3 s)).length + ((lcV s.1 (fun x => ((dfInt).eq (((s, x).2).length : Int) (2 : Int))) (fun x => (("click" : Str), (ixI (0 : Int) (s, x).2 (0 : Int)))))).length ≤ sizeLine] s
abbrev mclicks_of_fm (K : PySem.W.Frag) : Fm K ((List (Str × Int))) := ⟨[.fz (tList (tSeq (tInt K)))], .ow (oList (tTp [(tStr K), (tInt K)])), fun r => r, fun _ => ()⟩
abbrev mshortest_clicks_S : Type := Int × (List (Int × Int)) × Unit
def mshortest_clicks_c1 (s : mshortest_clicks_S) : Unit := mcheck_list (s.1, s.2.1, ())
def mshortest_clicks_c2 (s : mshortest_clicks_S) : (List (List Int)) := mbest_cover (s.2.1, ())
def mshortest_clicks_c3 (s : mshortest_clicks_S) : (List (Str × Int)) := mclicks_of ((mshortest_clicks_c2 s), ())
def mshortest_clicks (s : mshortest_clicks_S) : (List (Str × Int)) := hide ((mshortest_clicks_c3 s))
def mshortest_clicks_p (s : mshortest_clicks_S) : Prop := Conj [fun s => mcheck_list_p (s.1, s.2.1, ()), fun s => mbest_cover_p (s.2.1, ()), fun s => mclicks_of_p ((mshortest_clicks_c2 s), ())] s
abbrev mshortest_clicks_fm (K : PySem.W.Frag) : Fm K ((List (Str × Int))) := ⟨[.fz (tInt K), .fz (tList (tTp [(tInt K), (tInt K)]))], .ow (oList (tTp [(tStr K), (tInt K)])), fun r => r, fun _ => ()⟩
abbrev mfrom_borders_S : Type := (List Int) × Unit
def mfrom_borders (s : mfrom_borders_S) : (List (Int × Int)) := hide ((lcV (List.zip (stepL s.1 none none (some (2 : Int))) (stepL s.1 (some (1 : Int)) none (some (2 : Int)))) (fun x => true) (fun x => ((s, x).2.1, ((s, x).2.2 - (1 : Int))))))
def mfrom_borders_p (s : mfrom_borders_S) : Prop := Conj [fun s => ∀ x ∈ (List.zip (stepL s.1 none none (some (2 : Int))) (stepL s.1 (some (1 : Int)) none (some (2 : Int)))), Conj [] (s, x) ∧ (true = true → Conj [] (s, x))] s
abbrev mfrom_borders_fm (K : PySem.W.Frag) : Fm K ((List (Int × Int))) := ⟨[.fz (tList (tInt K))], .ow (oList (tTp [(tInt K), (tInt K)])), fun r => r, fun _ => ()⟩
abbrev mdifference_S : Type := Int × (List (Int × Int)) × (List (Int × Int)) × Unit
def mdifference_c1 (s : mdifference_S) : Unit := mcheck_items (s.1, ())
def mdifference_c2 (s : mdifference_S) : Unit := mcheck_selection (s.1, s.2.1, ())
def mdifference_c3 (s : mdifference_S) : Unit := mcheck_selection (s.1, s.2.2.1, ())
def mdifference_c4 (s : mdifference_S) : (List Int) := mborders_in (s.2.1, ())
def mdifference_c5 (s : mdifference_S) : (List Int) := mborders_in (s.2.2.1, ())
def mdifference_v_borders_6 (s : mdifference_S) : (List Int) := (sortI ((mdifference_c4 s) ++ (mdifference_c5 s)))
def mdifference_c7 (s : mdifference_S) : (List (Int × Int)) := mfrom_borders ((lcV (mdifference_v_borders_6 s) (fun x => ((dfInt).eq (((mdifference_v_borders_6 (s, x).1)).count (s, x).2 : Int) (1 : Int))) (fun x => (s, x).2)), ())
def mdifference (s : mdifference_S) : (List (Int × Int)) := hide ((mdifference_c7 s))
def mdifference_p (s : mdifference_S) : Prop := Conj [fun s => mcheck_items_p (s.1, ()), fun s => mcheck_selection_p (s.1, s.2.1, ()), fun s => mcheck_selection_p (s.1, s.2.2.1, ()), fun s => mborders_in_p (s.2.1, ()), fun s => mborders_in_p (s.2.2.1, ()), fun s => ((mdifference_c4 s)).length + ((mdifference_c5 s)).length ≤ sizeLine, fun s => ∀ x ∈ (mdifference_v_borders_6 s), Conj [] (s, x) ∧ (((dfInt).eq (((mdifference_v_borders_6 (s, x).1)).count (s, x).2 : Int) (1 : Int)) = true → Conj [] (s, x)), fun s => mfrom_borders_p ((lcV (mdifference_v_borders_6 s) (fun x => ((dfInt).eq (((mdifference_v_borders_6 (s, x).1)).count (s, x).2 : Int) (1 : Int))) (fun x => (s, x).2)), ())] s
abbrev mdifference_fm (K : PySem.W.Frag) : Fm K ((List (Int × Int))) := ⟨[.fz (tInt K), .fz (tList (tTp [(tInt K), (tInt K)])), .fz (tList (tTp [(tInt K), (tInt K)]))], .ow (oList (tTp [(tInt K), (tInt K)])), fun r => r, fun _ => ()⟩
abbrev m_law_right_S : Type := (List Int) × (List Int) × Unit
def m_law_right_c1 (s : m_law_right_S) : (List Int) × Int := m_law_size (s.1, s.2.1, ())
def m_law_right_v_size_here_2 (s : m_law_right_S) : Int := (min (m_law_right_c1 s).2 (((10 : Int) ^ ((30 : Int)).toNat) / (3 : Int)))
def m_law_right_c3 (s : m_law_right_S) : (List Int) × Int := m_law_draw ((m_law_right_c1 s).1, (2 : Int), ())
def m_law_right_v_bag_here_4 (s : m_law_right_S) : (List Int) := (if (((dfList dfInt)).eq s.1 ([] : List Int)) = true then (m_law_right_c1 s).1 else (m_law_right_c3 s).1)
def m_law_right_v_most_5 (s : m_law_right_S) : Int := (if (((dfList dfInt)).eq s.1 ([] : List Int)) = true then (3 : Int) else (ixI (0 : Int) ([(6 : Int), (50 : Int)] : List Int) (m_law_right_c3 s).2))
def m_law_right_c6 (s : m_law_right_S) : (List Int) × (List (Int × Int)) := m_law_runs ((m_law_right_v_bag_here_4 s), (m_law_right_v_size_here_2 s), (m_law_right_v_most_5 s), ())
def m_law_right_c7 (s : m_law_right_S) : (List Int) × (List (Int × Int)) := m_law_runs ((m_law_right_c6 s).1, (m_law_right_v_size_here_2 s), (m_law_right_v_most_5 s), ())
def m_law_right_c8 (s : m_law_right_S) : Int := mcost ((m_law_right_v_size_here_2 s), (m_law_right_c6 s).2, ())
def m_law_right_c9 (s : m_law_right_S) : Int := mcost ((m_law_right_v_size_here_2 s), (m_law_right_c7 s).2, ())
def m_law_right_v_prices_10 (s : m_law_right_S) : (List Int) := ([(m_law_right_c8 s), (m_law_right_c9 s)] : List Int)
abbrev m_law_right_L11M : Type := Unit
def m_law_right_L11x (s : m_law_right_S) : List ((List (Int × Int)) × Int) := (List.zip ([(m_law_right_c6 s).2, (m_law_right_c7 s).2] : List (List (Int × Int))) (m_law_right_v_prices_10 s))
def m_law_right_L11i (s : m_law_right_S) : m_law_right_L11M := ()
abbrev m_law_right_L11T : Type := (m_law_right_S × m_law_right_L11M) × ((List (Int × Int)) × Int)
def m_law_right_c12 (s : m_law_right_L11T) : (List Int) := mborders_of ((m_law_right_v_size_here_2 s.1.1), s.2.1, ())
def m_law_right_c13 (s : m_law_right_L11T) : (List (Int × Int)) := mblocks_of ((m_law_right_v_size_here_2 s.1.1), s.2.1, ())
def m_law_right_h14 (s : m_law_right_L11T) : Bool := ((!(pLe (((m_law_right_c12 s)).length : Int) ((2 : Int) * s.2.2) && pLe ((2 : Int) * s.2.2) ((2 : Int) * (((m_law_right_c12 s)).length : Int)))) || (decide (s.2.2 < (((m_law_right_c13 s)).length : Int))))
def m_law_right_c15 (s : m_law_right_L11T) : (List (Str × Int)) := mshortest_clicks ((m_law_right_v_size_here_2 s.1.1), s.2.1, ())
def m_law_right_h16 (s : m_law_right_L11T) : Bool := (!(dfInt).eq (((m_law_right_c15 s)).length : Int) s.2.2)
def m_law_right_c17 (s : m_law_right_L11T) : Int := mcost (((2 : Int) * (m_law_right_v_size_here_2 s.1.1)), (lcV s.2.1 (fun x => true) (fun x => (((2 : Int) * (s, x).2.1), (((2 : Int) * (s, x).2.2) + (1 : Int))))), ())
def m_law_right_h18 (s : m_law_right_L11T) : Bool := (!(dfInt).eq (m_law_right_c17 s) (((m_law_right_c12 s)).length : Int))
def m_law_right_L11s (s : m_law_right_L11T) : m_law_right_L11M := ()
def m_law_right_L11c (s : m_law_right_L11T) : Prop := Conj [fun s => mborders_of_p ((m_law_right_v_size_here_2 s.1.1), s.2.1, ()), fun s => mblocks_of_p ((m_law_right_v_size_here_2 s.1.1), s.2.1, ()), fun s => CMulX (2 : Int) s.2.2, fun s => (pLe (((m_law_right_c12 s)).length : Int) ((2 : Int) * s.2.2)) = true → CMulX (2 : Int) (((m_law_right_c12 s)).length : Int), fun s => (if (m_law_right_h14 s) = true then (some ((m_law_right_c7 s.1.1).1, false)) else none) = none → Conj [fun s => mshortest_clicks_p ((m_law_right_v_size_here_2 s.1.1), s.2.1, ()), fun s => (if (m_law_right_h16 s) = true then (some ((m_law_right_c7 s.1.1).1, false)) else none) = none → Conj [fun s => CMulX (2 : Int) (m_law_right_v_size_here_2 s.1.1), fun s => ∀ x ∈ s.2.1, Conj [] (s, x) ∧ (true = true → Conj [fun s => CMulX (2 : Int) s.2.1, fun s => CMulX (2 : Int) s.2.2] (s, x)), fun s => mcost_p (((2 : Int) * (m_law_right_v_size_here_2 s.1.1)), (lcV s.2.1 (fun x => true) (fun x => (((2 : Int) * (s, x).2.1), (((2 : Int) * (s, x).2.2) + (1 : Int))))), ()), fun s => (if (m_law_right_h18 s) = true then (some ((m_law_right_c7 s.1.1).1, false)) else none) = none → Conj [] s] s] s] s
def m_law_right_L11 (s : m_law_right_S) : m_law_right_L11M := LoopF (fun m x => m_law_right_L11s ((s, m), x)) (m_law_right_L11x s) (m_law_right_L11i s)
def m_law_right_L11r (s : m_law_right_L11T) : Option ((List Int) × Bool) := (orElseO (if (m_law_right_h14 s) = true then (some ((m_law_right_c7 s.1.1).1, false)) else none) (orElseO (if (m_law_right_h16 s) = true then (some ((m_law_right_c7 s.1.1).1, false)) else none) (orElseO (if (m_law_right_h18 s) = true then (some ((m_law_right_c7 s.1.1).1, false)) else none) none)))
def m_law_right_L11R (s : m_law_right_S) : Option ((List Int) × Bool) := LoopR (fun m x => m_law_right_L11r ((s, m), x)) (fun m x => m_law_right_L11s ((s, m), x)) (m_law_right_L11x s) (m_law_right_L11i s)
def m_law_right_v_far_19 (s : m_law_right_S) : (List (Int × Int)) := (lcV (m_law_right_c7 s).2 (fun x => true) (fun x => ((((s, x).2.1 + (m_law_right_v_size_here_2 (s, x).1)) + (2 : Int)), (((s, x).2.2 + (m_law_right_v_size_here_2 (s, x).1)) + (2 : Int)))))
def m_law_right_c20 (s : m_law_right_S) : Int := mcost ((((2 : Int) * (m_law_right_v_size_here_2 s)) + (2 : Int)), ((m_law_right_c6 s).2 ++ (m_law_right_v_far_19 s)), ())
def m_law_right_c21 (s : m_law_right_S) : (List Int) × (List (Int × Int)) := m_law_runs ((m_law_right_c7 s).1, (m_law_right_v_size_here_2 s), (100 : Int), ())
def m_law_right_c22 (s : m_law_right_S) : (List Int) × (List (Int × Int)) := m_law_runs ((m_law_right_c21 s).1, (m_law_right_v_size_here_2 s), (100 : Int), ())
def m_law_right_c23 (s : m_law_right_S) : Int := mcost ((m_law_right_v_size_here_2 s), (m_law_right_c21 s).2, ())
def m_law_right_c24 (s : m_law_right_S) : Int := mcost ((m_law_right_v_size_here_2 s), (m_law_right_c22 s).2, ())
def m_law_right_v_prices_25 (s : m_law_right_S) : (List Int) := ([(m_law_right_c23 s), (m_law_right_c24 s)] : List Int)
def m_law_right_h26 (s : m_law_right_S) : Bool := (!((dfList dfInt)).eq s.1 ([] : List Int))
def m_law_right_v_bag_here_27 (s : m_law_right_S) : (List Int) := (if (m_law_right_h26 s) = true then (m_law_right_c22 s).1 else (m_law_right_c7 s).1)
def m_law_right_v_one_28 (s : m_law_right_S) : (List (Int × Int)) := (if (m_law_right_h26 s) = true then (m_law_right_c21 s).2 else (m_law_right_c6 s).2)
def m_law_right_v_two_29 (s : m_law_right_S) : (List (Int × Int)) := (if (m_law_right_h26 s) = true then (m_law_right_c22 s).2 else (m_law_right_c7 s).2)
def m_law_right_v_prices_30 (s : m_law_right_S) : (List Int) := (if (m_law_right_h26 s) = true then (m_law_right_v_prices_25 s) else (m_law_right_v_prices_10 s))
def m_law_right_c31 (s : m_law_right_S) : (List (Int × Int)) := mdifference ((m_law_right_v_size_here_2 s), (m_law_right_v_one_28 s), (m_law_right_v_two_29 s), ())
def m_law_right_c32 (s : m_law_right_S) : Int := mcost ((m_law_right_v_size_here_2 s), (m_law_right_c31 s), ())
def m_law_right (s : m_law_right_S) : (List Int) × Bool := hide ((orElse (m_law_right_L11R s) (if (!(dfInt).eq (m_law_right_c20 s) ((m_law_right_v_prices_10 s)).sum) = true then ((m_law_right_c7 s).1, false) else (if (decide (((m_law_right_v_prices_30 s)).sum < (m_law_right_c32 s))) = true then ((m_law_right_v_bag_here_27 s), false) else ((m_law_right_v_bag_here_27 s), ((!((dfList (dfT2 dfInt dfInt))).eq (m_law_right_c31 s) ([] : List (Int × Int))) || ((dfInt).eq (ixI (0 : Int) (m_law_right_v_prices_30 s) (0 : Int)) (ixI (0 : Int) (m_law_right_v_prices_30 s) (1 : Int)))))))))
def m_law_right_p (s : m_law_right_S) : Prop := Conj [fun s => m_law_size_p (s.1, s.2.1, ()), fun s => CPowX (10 : Int) (30 : Int), fun s => CDivW ((10 : Int) ^ ((30 : Int)).toNat) (3 : Int), fun s => (((dfList dfInt)).eq s.1 ([] : List Int)) = false → m_law_draw_p ((m_law_right_c1 s).1, (2 : Int), ()), fun s => (((dfList dfInt)).eq s.1 ([] : List Int)) = false → IxOk ([(6 : Int), (50 : Int)] : List Int) (m_law_right_c3 s).2, fun s => m_law_runs_p ((m_law_right_v_bag_here_4 s), (m_law_right_v_size_here_2 s), (m_law_right_v_most_5 s), ()), fun s => m_law_runs_p ((m_law_right_c6 s).1, (m_law_right_v_size_here_2 s), (m_law_right_v_most_5 s), ()), fun s => mcost_p ((m_law_right_v_size_here_2 s), (m_law_right_c6 s).2, ()), fun s => mcost_p ((m_law_right_v_size_here_2 s), (m_law_right_c7 s).2, ()), fun s => loopCr (fun m x => m_law_right_L11c ((s, m), x)) (fun m x => m_law_right_L11r ((s, m), x)) (fun m x => m_law_right_L11s ((s, m), x)) (m_law_right_L11x s) (m_law_right_L11i s), fun s => (m_law_right_L11R s) = none → Conj [fun s => ∀ x ∈ (m_law_right_c7 s).2, Conj [] (s, x) ∧ (true = true → Conj [] (s, x)), fun s => CMulX (2 : Int) (m_law_right_v_size_here_2 s), fun s => ((m_law_right_c6 s).2).length + ((m_law_right_v_far_19 s)).length ≤ sizeLine, fun s => mcost_p ((((2 : Int) * (m_law_right_v_size_here_2 s)) + (2 : Int)), ((m_law_right_c6 s).2 ++ (m_law_right_v_far_19 s)), ()), fun s => if (!(dfInt).eq (m_law_right_c20 s) ((m_law_right_v_prices_10 s)).sum) = true then Conj [] s else Conj [fun s => (m_law_right_h26 s) = true → m_law_runs_p ((m_law_right_c7 s).1, (m_law_right_v_size_here_2 s), (100 : Int), ()), fun s => (m_law_right_h26 s) = true → m_law_runs_p ((m_law_right_c21 s).1, (m_law_right_v_size_here_2 s), (100 : Int), ()), fun s => (m_law_right_h26 s) = true → mcost_p ((m_law_right_v_size_here_2 s), (m_law_right_c21 s).2, ()), fun s => (m_law_right_h26 s) = true → mcost_p ((m_law_right_v_size_here_2 s), (m_law_right_c22 s).2, ()), fun s => mdifference_p ((m_law_right_v_size_here_2 s), (m_law_right_v_one_28 s), (m_law_right_v_two_29 s), ()), fun s => mcost_p ((m_law_right_v_size_here_2 s), (m_law_right_c31 s), ()), fun s => if (decide (((m_law_right_v_prices_30 s)).sum < (m_law_right_c32 s))) = true then Conj [] s else Conj [fun s => (!((dfList (dfT2 dfInt dfInt))).eq (m_law_right_c31 s) ([] : List (Int × Int))) = false → IxOk (m_law_right_v_prices_30 s) (0 : Int), fun s => (!((dfList (dfT2 dfInt dfInt))).eq (m_law_right_c31 s) ([] : List (Int × Int))) = false → IxOk (m_law_right_v_prices_30 s) (1 : Int)] s] s] s] s
abbrev m_law_right_fm (K : PySem.W.Frag) : Fm K ((List Int) × Bool) := ⟨[.fz (tScr K), .mu (oList (tInt K))], .fz (tBool K), fun r => r.2, fun r => (r.1, ())⟩
abbrev mlaw_S : Type := (List Int) × Unit
def mlaw_c1 (s : mlaw_S) : (List Int) := m_law_cells (s.1, ())
abbrev mlaw_L2M : Type := Unit
def mlaw_L2x (s : mlaw_S) : List (Int × Int) := (enumL (cutL (mlaw_c1 s) none (some (8 : Int))))
def mlaw_L2i (s : mlaw_S) : mlaw_L2M := ()
abbrev mlaw_L2T : Type := (mlaw_S × mlaw_L2M) × (Int × Int)
def mlaw_c3 (s : mlaw_L2T) : (List Int) := m_law_bag (s.2.2, s.2.1, ())
def mlaw_c4 (s : mlaw_L2T) : (List Int) × Bool := m_law_right (s.1.1.1, (mlaw_c3 s), ())
def mlaw_h5 (s : mlaw_L2T) : Bool := (!(mlaw_c4 s).2)
def mlaw_L2s (s : mlaw_L2T) : mlaw_L2M := ()
def mlaw_L2c (s : mlaw_L2T) : Prop := Conj [fun s => m_law_bag_p (s.2.2, s.2.1, ()), fun s => m_law_right_p (s.1.1.1, (mlaw_c3 s), ()), fun s => (if (mlaw_h5 s) = true then (some false) else none) = none → Conj [] s] s
def mlaw_L2 (s : mlaw_S) : mlaw_L2M := LoopF (fun m x => mlaw_L2s ((s, m), x)) (mlaw_L2x s) (mlaw_L2i s)
def mlaw_L2r (s : mlaw_L2T) : Option (Bool) := (orElseO (if (mlaw_h5 s) = true then (some false) else none) none)
def mlaw_L2R (s : mlaw_S) : Option (Bool) := LoopR (fun m x => mlaw_L2r ((s, m), x)) (fun m x => mlaw_L2s ((s, m), x)) (mlaw_L2x s) (mlaw_L2i s)
def mlaw (s : mlaw_S) : Bool := hide ((orElse (mlaw_L2R s) true))
def mlaw_p (s : mlaw_S) : Prop := Conj [fun s => m_law_cells_p (s.1, ()), fun s => loopCr (fun m x => mlaw_L2c ((s, m), x)) (fun m x => mlaw_L2r ((s, m), x)) (fun m x => mlaw_L2s ((s, m), x)) (mlaw_L2x s) (mlaw_L2i s), fun s => (mlaw_L2R s) = none → Conj [] s] s
abbrev mlaw_fm (K : PySem.W.Frag) : Fm K (Bool) := ⟨[.fz (tScr K)], .fz (tBool K), fun r => r, fun _ => ()⟩
section
variable {P : Program} {w : World} {K : PySem.W.Frag} {mg : Str → Option Value} {base : Heap}
def topS (i : Nat) : Stmt := PySem.Challenge.pw_rangeclicks_k41_whole_costs_of_related_s.main.body.getD i (.Pass ⟨0, 0, 0, 0⟩)
structure Tx (K : PySem.W.Frag) (mg : Str → Option Value) where
  a32 : Addr
  d32 : FuncData
  F32 : Fun K "_law_cells" "_law_cells" (topS 32) a32 d32
  g32 : mg "_law_cells" = some (.ref a32)
  b32 : Binds K d32 ["_law_script"] []
  a30 : Addr
  d30 : FuncData
  F30 : Fun K "_law_bag" "_law_bag" (topS 30) a30 d30
  g30 : mg "_law_bag" = some (.ref a30)
  b30 : Binds K d30 ["_law_cell", "_law_turn"] []
  a31 : Addr
  d31 : FuncData
  F31 : Fun K "_law_draw" "_law_draw" (topS 31) a31 d31
  g31 : mg "_law_draw" = some (.ref a31)
  b31 : Binds K d31 ["_law_bag_here", "_law_many"] []
  a34 : Addr
  d34 : FuncData
  F34 : Fun K "_law_size" "_law_size" (topS 34) a34 d34
  g34 : mg "_law_size" = some (.ref a34)
  b34 : Binds K d34 ["_law_script", "_law_bag_here"] []
  a33 : Addr
  d33 : FuncData
  F33 : Fun K "_law_runs" "_law_runs" (topS 33) a33 d33
  g33 : mg "_law_runs" = some (.ref a33)
  b33 : Binds K d33 ["_law_bag_here", "_law_size_here", "_law_most"] []
  a6 : Addr
  d6 : FuncData
  F6 : Fun K "is_integer" "is_integer" (topS 6) a6 d6
  g6 : mg "is_integer" = some (.ref a6)
  b6 : Binds K d6 ["value", "least", "most"] []
  a7 : Addr
  d7 : FuncData
  F7 : Fun K "check_items" "check_items" (topS 7) a7 d7
  g7 : mg "check_items" = some (.ref a7)
  b7 : Binds K d7 ["items"] []
  a8 : Addr
  d8 : FuncData
  F8 : Fun K "is_run" "is_run" (topS 8) a8 d8
  g8 : mg "is_run" = some (.ref a8)
  b8 : Binds K d8 ["items", "value"] []
  a9 : Addr
  d9 : FuncData
  F9 : Fun K "are_runs" "are_runs" (topS 9) a9 d9
  g9 : mg "are_runs" = some (.ref a9)
  b9 : Binds K d9 ["items", "value"] []
  a10 : Addr
  d10 : FuncData
  F10 : Fun K "check_selection" "check_selection" (topS 10) a10 d10
  g10 : mg "check_selection" = some (.ref a10)
  b10 : Binds K d10 ["items", "selection"] []
  a11 : Addr
  d11 : FuncData
  F11 : Fun K "borders_in" "borders_in" (topS 11) a11 d11
  g11 : mg "borders_in" = some (.ref a11)
  b11 : Binds K d11 ["selection"] []
  a13 : Addr
  d13 : FuncData
  F13 : Fun K "blocks_in" "blocks_in" (topS 13) a13 d13
  g13 : mg "blocks_in" = some (.ref a13)
  b13 : Binds K d13 ["borders"] []
  a18 : Addr
  d18 : FuncData
  F18 : Fun K "cost_of_borders" "cost_of_borders" (topS 18) a18 d18
  g18 : mg "cost_of_borders" = some (.ref a18)
  b18 : Binds K d18 ["borders"] []
  a19 : Addr
  d19 : FuncData
  F19 : Fun K "cost_of" "cost_of" (topS 19) a19 d19
  g19 : mg "cost_of" = some (.ref a19)
  b19 : Binds K d19 ["selection"] []
  a20 : Addr
  d20 : FuncData
  F20 : Fun K "cost" "cost" (topS 20) a20 d20
  g20 : mg "cost" = some (.ref a20)
  b20 : Binds K d20 ["items", "selection"] []
  a14 : Addr
  d14 : FuncData
  F14 : Fun K "borders_of" "borders_of" (topS 14) a14 d14
  g14 : mg "borders_of" = some (.ref a14)
  b14 : Binds K d14 ["items", "selection"] []
  a15 : Addr
  d15 : FuncData
  F15 : Fun K "blocks_of" "blocks_of" (topS 15) a15 d15
  g15 : mg "blocks_of" = some (.ref a15)
  b15 : Binds K d15 ["items", "selection"] []
  a22 : Addr
  d22 : FuncData
  F22 : Fun K "check_list" "check_list" (topS 22) a22 d22
  g22 : mg "check_list" = some (.ref a22)
  b22 : Binds K d22 ["items", "selection"] []
  a23 : Addr
  d23 : FuncData
  F23 : Fun K "blocks_with" "blocks_with" (topS 23) a23 d23
  g23 : mg "blocks_with" = some (.ref a23)
  b23 : Binds K d23 ["selection"] []
  a24 : Addr
  d24 : FuncData
  F24 : Fun K "tokens_in" "tokens_in" (topS 24) a24 d24
  g24 : mg "tokens_in" = some (.ref a24)
  b24 : Binds K d24 ["block", "place"] []
  a25 : Addr
  d25 : FuncData
  F25 : Fun K "cover_with" "cover_with" (topS 25) a25 d25
  g25 : mg "cover_with" = some (.ref a25)
  b25 : Binds K d25 ["blocks", "places"] []
  a26 : Addr
  d26 : FuncData
  F26 : Fun K "best_cover" "best_cover" (topS 26) a26 d26
  g26 : mg "best_cover" = some (.ref a26)
  b26 : Binds K d26 ["selection"] []
  a27 : Addr
  d27 : FuncData
  F27 : Fun K "clicks_of" "clicks_of" (topS 27) a27 d27
  g27 : mg "clicks_of" = some (.ref a27)
  b27 : Binds K d27 ["cover"] []
  a28 : Addr
  d28 : FuncData
  F28 : Fun K "shortest_clicks" "shortest_clicks" (topS 28) a28 d28
  g28 : mg "shortest_clicks" = some (.ref a28)
  b28 : Binds K d28 ["items", "selection"] []
  a12 : Addr
  d12 : FuncData
  F12 : Fun K "from_borders" "from_borders" (topS 12) a12 d12
  g12 : mg "from_borders" = some (.ref a12)
  b12 : Binds K d12 ["borders"] []
  a16 : Addr
  d16 : FuncData
  F16 : Fun K "difference" "difference" (topS 16) a16 d16
  g16 : mg "difference" = some (.ref a16)
  b16 : Binds K d16 ["items", "selection", "other"] []
  a35 : Addr
  d35 : FuncData
  F35 : Fun K "_law_right" "_law_right" (topS 35) a35 d35
  g35 : mg "_law_right" = some (.ref a35)
  b35 : Binds K d35 ["_law_script", "_law_bag_here"] []
  a36 : Addr
  d36 : FuncData
  F36 : Fun K "law" "law" (topS 36) a36 d36
  g36 : mg "law" = some (.ref a36)
  b36 : Binds K d36 ["_law_script"] []
  n_all : mg "all" = none
  n_bool : mg "bool" = none
  n_enumerate : mg "enumerate" = none
  n_int : mg "int" = none
  n_isinstance : mg "isinstance" = none
  n_len : mg "len" = none
  n_list : mg "list" = none
  n_max : mg "max" = none
  n_min : mg "min" = none
  n_range : mg "range" = none
  n_sorted : mg "sorted" = none
  n_sum : mg "sum" = none
  n_tuple : mg "tuple" = none
  n_zip : mg "zip" = none
  t_MOST_ITEMS : Tok
  c_MOST_ITEMS : mg "MOST_ITEMS" = some (.int 1000000000000000000000000000000 t_MOST_ITEMS)
theorem sc32 : FnScope ["_law_script"] ["_law_script"] (defScope (topS 32)) := ⟨rfl, rfl, rfl, by decide +kernel, rfl, by decide +kernel, by decide +kernel⟩
theorem sc30 : FnScope ["_law_cell", "_law_turn", "_law_size_here"] ["_law_cell", "_law_turn"] (defScope (topS 30)) := ⟨rfl, rfl, rfl, by decide +kernel, rfl, by decide +kernel, by decide +kernel⟩
theorem sc31 : FnScope ["_law_bag_here", "_law_many", "_law_found", "_law_mixed"] ["_law_bag_here", "_law_many"] (defScope (topS 31)) := ⟨rfl, rfl, rfl, by decide +kernel, rfl, by decide +kernel, by decide +kernel⟩
theorem sc34 : FnScope ["_law_script", "_law_bag_here"] ["_law_script", "_law_bag_here"] (defScope (topS 34)) := ⟨rfl, rfl, rfl, by decide +kernel, rfl, by decide +kernel, by decide +kernel⟩
theorem sc33 : FnScope ["_law_bag_here", "_law_size_here", "_law_most", "_law_found", "_law_here", "_law_wide", "_law_turn", "_law_last"] ["_law_bag_here", "_law_size_here", "_law_most"] (defScope (topS 33)) := ⟨rfl, rfl, rfl, by decide +kernel, rfl, by decide +kernel, by decide +kernel⟩
theorem sc6 : FnScope ["value", "least", "most"] ["value", "least", "most"] (defScope (topS 6)) := ⟨rfl, rfl, rfl, by decide +kernel, rfl, by decide +kernel, by decide +kernel⟩
theorem sc7 : FnScope ["items"] ["items"] (defScope (topS 7)) := ⟨rfl, rfl, rfl, by decide +kernel, rfl, by decide +kernel, by decide +kernel⟩
theorem sc8 : FnScope ["items", "value"] ["items", "value"] (defScope (topS 8)) := ⟨rfl, rfl, rfl, by decide +kernel, rfl, by decide +kernel, by decide +kernel⟩
theorem sc9 : FnScope ["items", "value", "run", "one", "other"] ["items", "value"] (defScope (topS 9)) := ⟨rfl, rfl, rfl, by decide +kernel, rfl, by decide +kernel, by decide +kernel⟩
theorem sc10 : FnScope ["items", "selection"] ["items", "selection"] (defScope (topS 10)) := ⟨rfl, rfl, rfl, by decide +kernel, rfl, by decide +kernel, by decide +kernel⟩
theorem sc11 : FnScope ["selection", "borders", "first", "last"] ["selection"] (defScope (topS 11)) := ⟨rfl, rfl, rfl, by decide +kernel, rfl, by decide +kernel, by decide +kernel⟩
theorem sc13 : FnScope ["borders", "blocks", "border"] ["borders"] (defScope (topS 13)) := ⟨rfl, rfl, rfl, by decide +kernel, rfl, by decide +kernel, by decide +kernel⟩
theorem sc18 : FnScope ["borders", "first", "last"] ["borders"] (defScope (topS 18)) := ⟨rfl, rfl, rfl, by decide +kernel, rfl, by decide +kernel, by decide +kernel⟩
theorem sc19 : FnScope ["selection"] ["selection"] (defScope (topS 19)) := ⟨rfl, rfl, rfl, by decide +kernel, rfl, by decide +kernel, by decide +kernel⟩
theorem sc20 : FnScope ["items", "selection"] ["items", "selection"] (defScope (topS 20)) := ⟨rfl, rfl, rfl, by decide +kernel, rfl, by decide +kernel, by decide +kernel⟩
theorem sc14 : FnScope ["items", "selection"] ["items", "selection"] (defScope (topS 14)) := ⟨rfl, rfl, rfl, by decide +kernel, rfl, by decide +kernel, by decide +kernel⟩
theorem sc15 : FnScope ["items", "selection"] ["items", "selection"] (defScope (topS 15)) := ⟨rfl, rfl, rfl, by decide +kernel, rfl, by decide +kernel, by decide +kernel⟩
theorem sc22 : FnScope ["items", "selection"] ["items", "selection"] (defScope (topS 22)) := ⟨rfl, rfl, rfl, by decide +kernel, rfl, by decide +kernel, by decide +kernel⟩
theorem sc23 : FnScope ["selection"] ["selection"] (defScope (topS 23)) := ⟨rfl, rfl, rfl, by decide +kernel, rfl, by decide +kernel, by decide +kernel⟩
theorem sc24 : FnScope ["block", "place", "first", "last", "single", "found", "border", "token"] ["block", "place"] (defScope (topS 24)) := ⟨rfl, rfl, rfl, by decide +kernel, rfl, by decide +kernel, by decide +kernel⟩
theorem sc25 : FnScope ["blocks", "places", "block", "place", "token"] ["blocks", "places"] (defScope (topS 25)) := ⟨rfl, rfl, rfl, by decide +kernel, rfl, by decide +kernel, by decide +kernel⟩
theorem sc26 : FnScope ["selection", "blocks"] ["selection"] (defScope (topS 26)) := ⟨rfl, rfl, rfl, by decide +kernel, rfl, by decide +kernel, by decide +kernel⟩
theorem sc27 : FnScope ["cover", "token", "singles", "found", "first", "after"] ["cover"] (defScope (topS 27)) := ⟨rfl, rfl, rfl, by decide +kernel, rfl, by decide +kernel, by decide +kernel⟩
theorem sc28 : FnScope ["items", "selection"] ["items", "selection"] (defScope (topS 28)) := ⟨rfl, rfl, rfl, by decide +kernel, rfl, by decide +kernel, by decide +kernel⟩
theorem sc12 : FnScope ["borders", "first", "end"] ["borders"] (defScope (topS 12)) := ⟨rfl, rfl, rfl, by decide +kernel, rfl, by decide +kernel, by decide +kernel⟩
theorem sc16 : FnScope ["items", "selection", "other", "borders", "border"] ["items", "selection", "other"] (defScope (topS 16)) := ⟨rfl, rfl, rfl, by decide +kernel, rfl, by decide +kernel, by decide +kernel⟩
theorem sc35 : FnScope ["_law_script", "_law_bag_here", "_law_size_here", "_law_most", "_law_one", "_law_two", "_law_prices", "_law_marks", "_law_price", "_law_edges", "_law_blocks", "_law_first", "_law_last", "_law_far", "_law_both"] ["_law_script", "_law_bag_here"] (defScope (topS 35)) := ⟨rfl, rfl, rfl, by decide +kernel, rfl, by decide +kernel, by decide +kernel⟩
theorem sc36 : FnScope ["_law_script", "_law_k", "_law_cell"] ["_law_script"] (defScope (topS 36)) := ⟨rfl, rfl, rfl, by decide +kernel, rfl, by decide +kernel, by decide +kernel⟩
theorem m_law_cells_ok (T : Tx K mg) : FnG P w K mg base CX0 1 T.a32 T.d32 ["_law_script"] (SpOf (m_law_cells_fm K) m_law_cells_p m_law_cells) := by
  refine def_ok T.F32 sc32 rfl (by decide) fun cdv A outer s H E hr => ?_
  exact def_fin (Δ := ([.fz (tScr K) (fun (s : m_law_cells_S) => s.1)] : Ctx K m_law_cells_S)) (p := m_law_cells_p) (fv := m_law_cells) (
    DR.retO (f := fun (s : m_law_cells_S) => (([((s.1).length : Int)] : List Int) ++ (cutL s.1 none (some (7 : Int))))) (DO.cat ll_list ll_list (DX.ofL (DO.lst (τ := (tInt K)) (DL.cons (DX.len ll_scr T.n_len (DX.var (i := 0) rfl)) DL.nil) (hl := fun _ => (by decide : 1 ≤ sizeLine)))) (DX.ofL (DO.sl ll_scr (DX.var (i := 0) rfl) DPo.none (DPo.some DX.int)))) (OwnAll.all (by exact trivial)) (.fz .nil) ⟨rfl, fun _ => HEq.rfl, fun _ => rfl⟩
    ) (by exact fun _ => (hide_eq _).symm) (by exact fun _ h => h)
theorem m_law_bag_ok (T : Tx K mg) : FnG P w K mg base CX0 1 T.a30 T.d30 ["_law_cell", "_law_turn"] (SpOf (m_law_bag_fm K) m_law_bag_p m_law_bag) := by
  refine def_ok T.F30 sc30 rfl (by decide) fun cdv A outer s H E hr => ?_
  exact def_fin (Δ := ([.fz (tInt K) (fun (s : m_law_bag_S) => s.1), .fz (tInt K) (fun (s : m_law_bag_S) => s.2.1), .dead] : Ctx K m_law_bag_S)) (p := m_law_bag_p) (fv := m_law_bag) (
    DR.cons (Δ1 := ([.fz (tInt K) (fun (s : m_law_bag_S) => s.1), .fz (tInt K) (fun (s : m_law_bag_S) => s.2.1), .fz (tInt K) (fun (s : m_law_bag_S) => (m_law_bag_v_size_here_1 s))] : Ctx K m_law_bag_S)) (DS.conv (DS.asg (DX.max2 T.n_max (DX.var (i := 0) rfl) (DX.sub DX.int (DX.var (i := 0) rfl))) (DG.name (i := 2) sc30.nd rfl (.inl rfl)) (by exact trivial) (by show ∀ j ∈ ([2] : List Nat), j ∉ ([] : List Nat); decide)) rfl (by exact rfl)) <|
    DR.retO (f := fun (s : m_law_bag_S) => ([(max (0 : Int) ((m_law_bag_v_size_here_1 s) - ((10 : Int) ^ ((18 : Int)).toNat))), (((s.1 * ((1000003 : Int) ^ ((3 : Int)).toNat)) + (((393343123 : Int) ^ ((4 : Int)).toNat) * (s.2.1 + (1 : Int)))) % (((10 : Int) ^ ((42 : Int)).toNat) + (63 : Int))), (0 : Int)] : List Int)) (DO.lst (τ := (tInt K)) (DL.cons (DX.max2 T.n_max DX.int (DX.sub (DX.var (i := 2) rfl) (DX.pow DX.int DX.int))) (DL.cons (DX.mod (DX.add (DX.mul (DX.var (i := 0) rfl) (DX.pow DX.int DX.int)) (DX.mul (DX.pow DX.int DX.int) (DX.add (DX.var (i := 1) rfl) DX.int))) (DX.add (DX.pow DX.int DX.int) DX.int)) (DL.cons DX.int DL.nil))) (hl := fun _ => (by decide : 3 ≤ sizeLine))) (OwnAll.all (by exact trivial)) (.fz (.fz .nil)) ⟨rfl, fun _ => HEq.rfl, fun _ => rfl⟩
    ) (by exact fun _ => (hide_eq _).symm) (by exact fun _ h => h)
theorem m_law_draw_ok (T : Tx K mg) : FnG P w K mg base CX0 1 T.a31 T.d31 ["_law_bag_here", "_law_many"] (SpOf (m_law_draw_fm K) m_law_draw_p m_law_draw) := by
  refine def_ok T.F31 sc31 rfl (by decide) fun cdv A outer s H E hr => ?_
  exact def_fin (Δ := ([.ow (oList (tInt K)) (fun (s : m_law_draw_S) => s.1), .fz (tInt K) (fun (s : m_law_draw_S) => s.2.1), .dead, .dead] : Ctx K m_law_draw_S)) (p := m_law_draw_p) (fv := m_law_draw) (
    DR.if1 (h := fun (s : m_law_draw_S) => (decide ((1 : Int) < (ixI (0 : Int) s.1 (0 : Int))))) (Δ1 := ([.ow (oList (tInt K)) (fun (s : m_law_draw_S) => s.1), .fz (tInt K) (fun (s : m_law_draw_S) => s.2.1), .dead, .dead] : Ctx K m_law_draw_S)) (DT.conv (DT.borrowE 0 rfl (DT.gt (DX.ix (ll_list (τ := (tInt K))) (0 : Int) (DX.var (i := 0) rfl) DX.int) DX.int) (by show 0 ∉ ([] : List Nat); decide) (by exact trivial) (by exact trivial)) rfl rfl (by exact rfl)) (by exact trivial) (
      DR.cons (Δ1 := ([.ow (oList (tInt K)) (fun (s : m_law_draw_S) => s.1), .fz (tInt K) (fun (s : m_law_draw_S) => s.2.1), .fz (tInt K) (fun (s : m_law_draw_S) => (m_law_draw_v_found_1 s)), .dead] : Ctx K m_law_draw_S)) (DS.conv (DS.asg (DX.borrowE 0 rfl (DX.mod (DX.ix (ll_list (τ := (tInt K))) (0 : Int) (DX.var (i := 0) rfl) DX.int) (DX.var (i := 1) rfl)) lf_int (by show 0 ∉ ([] : List Nat); decide) (by exact trivial) (by exact trivial)) (DG.name (i := 2) sc31.nd rfl (.inl rfl)) (by exact trivial) (by show ∀ j ∈ ([2] : List Nat), j ∉ ([0] : List Nat); decide)) rfl (by exact rfl)) <|
      DR.cons (Δ1 := ([.ow (oList (tInt K)) (fun (s : m_law_draw_S) => (m_law_draw_v_bag_here_2 s)), .fz (tInt K) (fun (s : m_law_draw_S) => s.2.1), .fz (tInt K) (fun (s : m_law_draw_S) => (m_law_draw_v_found_1 s)), .dead] : Ctx K m_law_draw_S)) (DS.conv (DS.store (DX.borrowE 0 rfl (DX.fdiv (DX.ix (ll_list (τ := (tInt K))) (0 : Int) (DX.var (i := 0) rfl) DX.int) (DX.var (i := 1) rfl)) lf_int (by show 0 ∉ ([] : List Nat); decide) (by exact trivial) (by exact trivial)) (DX.pu DX.int rfl rfl) (by exact trivial) (i := 0) rfl) rfl (by exact rfl)) <|
      DR.ret (f := fun (s : m_law_draw_S) => ((m_law_draw_v_bag_here_2 s), (m_law_draw_v_found_1 s))) (DX.var (i := 2) rfl) (OwnAll.all (by exact trivial)) (.mu rfl (.fz .nil)) ⟨rfl, fun _ => HEq.rfl, fun _ => rfl⟩
    ) (
      DR.cons (Δ1 := ([.ow (oList (tInt K)) (fun (s : m_law_draw_S) => (m_law_draw_v_bag_here_3 s)), .fz (tInt K) (fun (s : m_law_draw_S) => s.2.1), .dead, .dead] : Ctx K m_law_draw_S)) (DS.conv (DS.store (DX.borrowE 0 rfl (DX.add (DX.ix (ll_list (τ := (tInt K))) (0 : Int) (DX.var (i := 0) rfl) DX.int) DX.int) lf_int (by show 0 ∉ ([] : List Nat); decide) (by exact trivial) (by exact trivial)) (DX.pu DX.int rfl rfl) (by exact trivial) (i := 0) rfl) rfl (by exact rfl)) <|
      DR.cons (Δ1 := ([.ow (oList (tInt K)) (fun (s : m_law_draw_S) => (m_law_draw_v_bag_here_3 s)), .fz (tInt K) (fun (s : m_law_draw_S) => s.2.1), .dead, .fz (tInt K) (fun (s : m_law_draw_S) => (m_law_draw_v_mixed_4 s))] : Ctx K m_law_draw_S)) (DS.conv (DS.asg (DX.borrowE 0 rfl (DX.mod (DX.add (DX.ix (ll_list (τ := (tInt K))) (0 : Int) (DX.var (i := 0) rfl) DX.int) (DX.mul (DX.ix (ll_list (τ := (tInt K))) (0 : Int) (DX.var (i := 0) rfl) DX.int) (DX.pow DX.int DX.int))) (DX.add (DX.pow DX.int DX.int) DX.int)) lf_int (by show 0 ∉ ([] : List Nat); decide) (by exact trivial) (by exact trivial)) (DG.name (i := 3) sc31.nd rfl (.inl rfl)) (by exact trivial) (by show ∀ j ∈ ([3] : List Nat), j ∉ ([0] : List Nat); decide)) rfl (by exact rfl)) <|
      DR.cons (Δ1 := ([.ow (oList (tInt K)) (fun (s : m_law_draw_S) => (m_law_draw_v_bag_here_3 s)), .fz (tInt K) (fun (s : m_law_draw_S) => s.2.1), .dead, .fz (tInt K) (fun (s : m_law_draw_S) => (m_law_draw_v_mixed_5 s))] : Ctx K m_law_draw_S)) (DS.conv (DS.asg (DX.borrowE 0 rfl (DX.add (DX.mod (DX.pow (DX.var (i := 3) rfl) DX.int) (DX.add (DX.pow DX.int DX.int) DX.int)) (DX.mul (DX.ix (ll_list (τ := (tInt K))) (0 : Int) (DX.var (i := 0) rfl) DX.int) DX.int)) lf_int (by show 0 ∉ ([] : List Nat); decide) (by exact trivial) (by exact trivial)) (DG.name (i := 3) sc31.nd rfl (.inl rfl)) (by exact trivial) (by show ∀ j ∈ ([3] : List Nat), j ∉ ([0] : List Nat); decide)) rfl (by exact rfl)) <|
      DR.ret (f := fun (s : m_law_draw_S) => ((m_law_draw_v_bag_here_3 s), (((((m_law_draw_v_mixed_5 s) ^ ((5 : Int)).toNat) % (((10 : Int) ^ ((37 : Int)).toNat) + (43 : Int))) / (65537 : Int)) % s.2.1))) (DX.mod (DX.fdiv (DX.mod (DX.pow (DX.var (i := 3) rfl) DX.int) (DX.add (DX.pow DX.int DX.int) DX.int)) DX.int) (DX.var (i := 1) rfl)) (OwnAll.all (by exact trivial)) (.mu rfl (.fz .nil)) ⟨rfl, fun _ => HEq.rfl, fun _ => rfl⟩
    )
    ) (by exact fun _ => (hide_eq _).symm) (by exact fun _ h => h)
theorem m_law_size_ok (T : Tx K mg) : FnG P w K mg base CX0 2 T.a34 T.d34 ["_law_script", "_law_bag_here"] (SpOf (m_law_size_fm K) m_law_size_p m_law_size) := by
  refine def_ok T.F34 sc34 rfl (by decide) fun cdv A outer s H E hr => ?_
  exact def_fin (Δ := ([.fz (tScr K) (fun (s : m_law_size_S) => s.1), .ow (oList (tInt K)) (fun (s : m_law_size_S) => s.2.1)] : Ctx K m_law_size_S)) (p := m_law_size_p) (fv := m_law_size) (
    DR.if1 (h := fun (s : m_law_size_S) => (((dfList dfInt)).eq s.1 ([] : List Int))) (Δ1 := ([.fz (tScr K) (fun (s : m_law_size_S) => s.1), .ow (oList (tInt K)) (fun (s : m_law_size_S) => s.2.1)] : Ctx K m_law_size_S)) (DT.conv (DT.eq hr.rm dat_scr (DX.var (i := 0) rfl) (DX.scrL (DX.ofL (DO.lst (τ := (tInt K)) DL.nil (hl := fun _ => (by decide : 0 ≤ sizeLine))))) (hn := n64 (m := 2) rfl)) rfl rfl (by exact rfl)) (by exact trivial) (
      DR.ret (f := fun (s : m_law_size_S) => (s.2.1, (7 : Int))) DX.int (OwnAll.all (by exact trivial)) (.fz (.mu rfl .nil)) ⟨rfl, fun _ => HEq.rfl, fun _ => rfl⟩
    ) (
      DR.ret (f := fun (s : m_law_size_S) => ((m_law_size_c4 s).1, (ixI (0 : Int) ([((1 : Int) + (m_law_size_c1 s).2), ((1 : Int) + (m_law_size_c2 s).2), (((10 : Int) ^ ((30 : Int)).toNat) - (m_law_size_c3 s).2)] : List Int) (m_law_size_c4 s).2))) (DX.ix (ll_list (τ := (tInt K))) (0 : Int) (DX.ofL (DO.lst (τ := (tInt K)) (DL.cons (DX.add DX.int (DX.ofC (fm := m_law_draw_fm K) (τ := (tInt K)) (DC.call ((m_law_draw_ok T).mono (by decide)) hr T.g31 T.F31.kp T.b31 (DA.mu (j := 1) rfl (DA.cons DX.int DA.nil)) (.mu rfl (.fz .nil)) (.mu (.fz .nil)) nd1 (by exact ⟨⟨_, _, rfl⟩, trivial⟩)) rfl (fun _ => HEq.rfl))) (DL.cons (DX.add DX.int (DX.ofC (fm := m_law_draw_fm K) (τ := (tInt K)) (DC.call ((m_law_draw_ok T).mono (by decide)) hr T.g31 T.F31.kp T.b31 (DA.mu (j := 1) rfl (DA.cons DX.int DA.nil)) (.mu rfl (.fz .nil)) (.mu (.fz .nil)) nd1 (by exact ⟨⟨_, _, rfl⟩, trivial⟩)) rfl (fun _ => HEq.rfl))) (DL.cons (DX.sub (DX.pow DX.int DX.int) (DX.ofC (fm := m_law_draw_fm K) (τ := (tInt K)) (DC.call ((m_law_draw_ok T).mono (by decide)) hr T.g31 T.F31.kp T.b31 (DA.mu (j := 1) rfl (DA.cons DX.int DA.nil)) (.mu rfl (.fz .nil)) (.mu (.fz .nil)) nd1 (by exact ⟨⟨_, _, rfl⟩, trivial⟩)) rfl (fun _ => HEq.rfl))) DL.nil))) (hl := fun _ => (by decide : 3 ≤ sizeLine)))) (DX.ofC (fm := m_law_draw_fm K) (τ := (tInt K)) (DC.call ((m_law_draw_ok T).mono (by decide)) hr T.g31 T.F31.kp T.b31 (DA.mu (j := 1) rfl (DA.cons DX.int DA.nil)) (.mu rfl (.fz .nil)) (.mu (.fz .nil)) nd1 (by exact ⟨⟨_, _, rfl⟩, trivial⟩)) rfl (fun _ => HEq.rfl))) (OwnAll.all (by exact ⟨⟨_, _, rfl⟩, ⟨⟨_, _, rfl⟩, ⟨⟨_, _, rfl⟩, ⟨⟨_, _, rfl⟩, trivial⟩⟩⟩⟩)) (.fz (.mu rfl .nil)) ⟨rfl, fun _ => HEq.rfl, fun _ => rfl⟩
    )
    ) (by exact fun _ => (hide_eq _).symm) (by exact fun _ h => h)
theorem m_law_runs_ok (T : Tx K mg) : FnG P w K mg base CX0 2 T.a33 T.d33 ["_law_bag_here", "_law_size_here", "_law_most"] (SpOf (m_law_runs_fm K) m_law_runs_p m_law_runs) := by
  refine def_ok T.F33 sc33 rfl (by decide) fun cdv A outer s H E hr => ?_
  exact def_fin (Δ := ([.ow (oList (tInt K)) (fun (s : m_law_runs_S) => s.1), .fz (tInt K) (fun (s : m_law_runs_S) => s.2.1), .fz (tInt K) (fun (s : m_law_runs_S) => s.2.2.1), .dead, .dead, .dead, .dead, .dead] : Ctx K m_law_runs_S)) (p := m_law_runs_p) (fv := m_law_runs) (
    DR.cons (Δ1 := ([.ow (oList (tInt K)) (fun (s : m_law_runs_S) => (m_law_runs_c2 s).1), .fz (tInt K) (fun (s : m_law_runs_S) => s.2.1), .fz (tInt K) (fun (s : m_law_runs_S) => s.2.2.1), .ow (oList (tTp [(tInt K), (tInt K)])) (fun (s : m_law_runs_S) => (m_law_runs_v_found_3 s)), .fz (tInt K) (fun (s : m_law_runs_S) => (m_law_runs_v_here_4 s)), .dead, .dead, .dead] : Ctx K m_law_runs_S)) (DS.conv (DS.par (DV.ow (DO.lst (τ := (tTp [(tInt K), (tInt K)])) DL.nil (hl := fun _ => (by decide : 0 ≤ sizeLine)))) (DV.fz (DX.mul (DX.ofC (fm := m_law_draw_fm K) (τ := (tInt K)) (DC.call ((m_law_draw_ok T).mono (by decide)) hr T.g31 T.F31.kp T.b31 (DA.mu (j := 0) rfl (DA.cons DX.int DA.nil)) (.mu rfl (.fz .nil)) (.mu (.fz .nil)) nd1 (by exact ⟨⟨_, _, rfl⟩, trivial⟩)) rfl (fun _ => HEq.rfl)) (DX.ofC (fm := m_law_draw_fm K) (τ := (tInt K)) (DC.call ((m_law_draw_ok T).mono (by decide)) hr T.g31 T.F31.kp T.b31 (DA.mu (j := 0) rfl (DA.cons DX.int DA.nil)) (.mu rfl (.fz .nil)) (.mu (.fz .nil)) nd1 (by exact ⟨⟨_, _, rfl⟩, trivial⟩)) rfl (fun _ => HEq.rfl)))) (by exact ⟨⟨_, _, rfl⟩, ⟨⟨_, _, rfl⟩, trivial⟩⟩) sc33.nd (i := 3) (j := 4) rfl rfl (by decide) rfl rfl (by show 3 ∉ ([0] : List Nat); decide) (by show 4 ∉ ([0] : List Nat); decide)) rfl (by exact rfl)) <|
    DR.cons (Δ1 := ([.ow (oList (tInt K)) (fun (s : m_law_runs_S) => (m_law_runs_c5 s).1), .fz (tInt K) (fun (s : m_law_runs_S) => s.2.1), .fz (tInt K) (fun (s : m_law_runs_S) => s.2.2.1), .ow (oList (tTp [(tInt K), (tInt K)])) (fun (s : m_law_runs_S) => (m_law_runs_v_found_3 s)), .fz (tInt K) (fun (s : m_law_runs_S) => (m_law_runs_v_here_4 s)), .fz (tInt K) (fun (s : m_law_runs_S) => (m_law_runs_v_wide_6 s)), .dead, .dead] : Ctx K m_law_runs_S)) (DS.conv (DS.asg (DX.ix (ll_list (τ := (tInt K))) (0 : Int) (DX.ofL (DO.lst (τ := (tInt K)) (DL.cons DX.int (DL.cons DX.int (DL.cons (DX.max2 T.n_max DX.int (DX.fdiv (DX.var (i := 1) rfl) DX.int)) DL.nil))) (hl := fun _ => (by decide : 3 ≤ sizeLine)))) (DX.ofC (fm := m_law_draw_fm K) (τ := (tInt K)) (DC.call ((m_law_draw_ok T).mono (by decide)) hr T.g31 T.F31.kp T.b31 (DA.mu (j := 0) rfl (DA.cons DX.int DA.nil)) (.mu rfl (.fz .nil)) (.mu (.fz .nil)) nd1 (by exact ⟨⟨_, _, rfl⟩, trivial⟩)) rfl (fun _ => HEq.rfl))) (DG.name (i := 5) sc33.nd rfl (.inl rfl)) (by exact ⟨⟨_, _, rfl⟩, trivial⟩) (by show ∀ j ∈ ([5] : List Nat), j ∉ ([0] : List Nat); decide)) rfl (by exact rfl)) <|
    DR.cons (Δ1 := ([.ow (oList (tInt K)) (fun (s : m_law_runs_S) => (m_law_runs_L8 s).1), .fz (tInt K) (fun (s : m_law_runs_S) => s.2.1), .fz (tInt K) (fun (s : m_law_runs_S) => s.2.2.1), .ow (oList (tTp [(tInt K), (tInt K)])) (fun (s : m_law_runs_S) => (m_law_runs_L8 s).2.1), .fz (tInt K) (fun (s : m_law_runs_S) => (m_law_runs_L8 s).2.2), .fz (tInt K) (fun (s : m_law_runs_S) => (m_law_runs_v_wide_6 s)), .dead, .dead] : Ctx K m_law_runs_S)) (DS.conv (DS.forH (S := m_law_runs_S) (M := m_law_runs_L8M) (τ := (tInt K)) (init := fun s => m_law_runs_L8i s) (step := fun s => m_law_runs_L8s s) (fx := fun s => m_law_runs_L8x s) (Δ1 := ([.ow (oList (tInt K)) (fun (s : m_law_runs_S) => (m_law_runs_c7 s).1), .fz (tInt K) (fun (s : m_law_runs_S) => s.2.1), .fz (tInt K) (fun (s : m_law_runs_S) => s.2.2.1), .ow (oList (tTp [(tInt K), (tInt K)])) (fun (s : m_law_runs_S) => (m_law_runs_v_found_3 s)), .fz (tInt K) (fun (s : m_law_runs_S) => (m_law_runs_v_here_4 s)), .fz (tInt K) (fun (s : m_law_runs_S) => (m_law_runs_v_wide_6 s)), .dead, .dead] : Ctx K m_law_runs_S)) (Δl := ([.ow (oList (tInt K)) (fun (s : (m_law_runs_S × m_law_runs_L8M)) => s.2.1), .fz (tInt K) (fun (s : (m_law_runs_S × m_law_runs_L8M)) => s.1.2.1), .fz (tInt K) (fun (s : (m_law_runs_S × m_law_runs_L8M)) => s.1.2.2.1), .ow (oList (tTp [(tInt K), (tInt K)])) (fun (s : (m_law_runs_S × m_law_runs_L8M)) => s.2.2.1), .fz (tInt K) (fun (s : (m_law_runs_S × m_law_runs_L8M)) => s.2.2.2), .fz (tInt K) (fun (s : (m_law_runs_S × m_law_runs_L8M)) => (m_law_runs_v_wide_6 s.1)), .dead, .dead] : Ctx K (m_law_runs_S × m_law_runs_L8M))) (Δb := ([.ow (oList (tInt K)) (fun (s : m_law_runs_L8T) => s.1.2.1), .fz (tInt K) (fun (s : m_law_runs_L8T) => s.1.1.2.1), .fz (tInt K) (fun (s : m_law_runs_L8T) => s.1.1.2.2.1), .ow (oList (tTp [(tInt K), (tInt K)])) (fun (s : m_law_runs_L8T) => s.1.2.2.1), .fz (tInt K) (fun (s : m_law_runs_L8T) => s.1.2.2.2), .fz (tInt K) (fun (s : m_law_runs_L8T) => (m_law_runs_v_wide_6 s.1.1)), .fz (tInt K) (fun (s : m_law_runs_L8T) => s.2), .dead] : Ctx K m_law_runs_L8T)) (Δe := ([.ow (oList (tInt K)) (fun (s : m_law_runs_L8T) => (m_law_runs_c15 s).1), .fz (tInt K) (fun (s : m_law_runs_L8T) => s.1.1.2.1), .fz (tInt K) (fun (s : m_law_runs_L8T) => s.1.1.2.2.1), .ow (oList (tTp [(tInt K), (tInt K)])) (fun (s : m_law_runs_L8T) => (m_law_runs_v_found_13 s)), .fz (tInt K) (fun (s : m_law_runs_L8T) => (m_law_runs_v_here_16 s)), .fz (tInt K) (fun (s : m_law_runs_L8T) => (m_law_runs_v_wide_6 s.1.1)), .fz (tInt K) (fun (s : m_law_runs_L8T) => s.2), .fz (tInt K) (fun (s : m_law_runs_L8T) => (m_law_runs_v_last_10 s))] : Ctx K m_law_runs_L8T)) (DI.conv (DI.range1 T.n_range (DX.add DX.int (DX.ofC (fm := m_law_draw_fm K) (τ := (tInt K)) (DC.call ((m_law_draw_ok T).mono (by decide)) hr T.g31 T.F31.kp T.b31 (DA.mu (j := 0) rfl (DA.cons (DX.var (i := 2) rfl) DA.nil)) (.mu rfl (.fz .nil)) (.mu (.fz .nil)) nd1 (by exact ⟨⟨_, _, rfl⟩, trivial⟩)) rfl (fun _ => HEq.rfl)))) rfl rfl (by exact rfl)) (by exact ⟨⟨_, _, rfl⟩, trivial⟩) (.ow (ω := (oList (tInt K))) (fun (m : m_law_runs_L8M) => m.1) (fun _ => by rfl) (.keep (.keep (.ow (ω := (oList (tTp [(tInt K), (tInt K)]))) (fun (m : m_law_runs_L8M) => m.2.1) (fun _ => by rfl) (.fz (τ := (tInt K)) (fun (m : m_law_runs_L8M) => m.2.2) (fun _ => by rfl) (.keep (.dead (.dead .nil)))))))) (DG.name (i := 6) sc33.nd rfl (.inl rfl)) (by show ∀ j ∈ ([6] : List Nat), j ∉ ([0] : List Nat); decide) (
      DN.cons (Δ1 := ([.ow (oList (tInt K)) (fun (s : m_law_runs_L8T) => (m_law_runs_c9 s).1), .fz (tInt K) (fun (s : m_law_runs_L8T) => s.1.1.2.1), .fz (tInt K) (fun (s : m_law_runs_L8T) => s.1.1.2.2.1), .ow (oList (tTp [(tInt K), (tInt K)])) (fun (s : m_law_runs_L8T) => s.1.2.2.1), .fz (tInt K) (fun (s : m_law_runs_L8T) => s.1.2.2.2), .fz (tInt K) (fun (s : m_law_runs_L8T) => (m_law_runs_v_wide_6 s.1.1)), .fz (tInt K) (fun (s : m_law_runs_L8T) => s.2), .fz (tInt K) (fun (s : m_law_runs_L8T) => (m_law_runs_v_last_10 s))] : Ctx K m_law_runs_L8T)) (DS.conv (DS.asg (DX.add (DX.var (i := 4) rfl) (DX.ofC (fm := m_law_draw_fm K) (τ := (tInt K)) (DC.call ((m_law_draw_ok T).mono (by decide)) hr T.g31 T.F31.kp T.b31 (DA.mu (j := 0) rfl (DA.cons (DX.var (i := 5) rfl) DA.nil)) (.mu rfl (.fz .nil)) (.mu (.fz .nil)) nd1 (by exact ⟨⟨_, _, rfl⟩, trivial⟩)) rfl (fun _ => HEq.rfl))) (DG.name (i := 7) sc33.nd rfl (.inl rfl)) (by exact ⟨⟨_, _, rfl⟩, trivial⟩) (by show ∀ j ∈ ([7] : List Nat), j ∉ ([0] : List Nat); decide)) rfl (by exact rfl)) <|
      DN.cons (Δ1 := ([.ow (oList (tInt K)) (fun (s : m_law_runs_L8T) => (m_law_runs_c9 s).1), .fz (tInt K) (fun (s : m_law_runs_L8T) => s.1.1.2.1), .fz (tInt K) (fun (s : m_law_runs_L8T) => s.1.1.2.2.1), .ow (oList (tTp [(tInt K), (tInt K)])) (fun (s : m_law_runs_L8T) => (m_law_runs_v_found_13 s)), .fz (tInt K) (fun (s : m_law_runs_L8T) => s.1.2.2.2), .fz (tInt K) (fun (s : m_law_runs_L8T) => (m_law_runs_v_wide_6 s.1.1)), .fz (tInt K) (fun (s : m_law_runs_L8T) => s.2), .fz (tInt K) (fun (s : m_law_runs_L8T) => (m_law_runs_v_last_10 s))] : Ctx K m_law_runs_L8T)) (DS.conv (DS.ite (h := fun (s : m_law_runs_L8T) => (m_law_runs_h12 s)) (Δ1 := ([.ow (oList (tInt K)) (fun (s : m_law_runs_L8T) => (m_law_runs_c9 s).1), .fz (tInt K) (fun (s : m_law_runs_L8T) => s.1.1.2.1), .fz (tInt K) (fun (s : m_law_runs_L8T) => s.1.1.2.2.1), .ow (oList (tTp [(tInt K), (tInt K)])) (fun (s : m_law_runs_L8T) => s.1.2.2.1), .fz (tInt K) (fun (s : m_law_runs_L8T) => s.1.2.2.2), .fz (tInt K) (fun (s : m_law_runs_L8T) => (m_law_runs_v_wide_6 s.1.1)), .fz (tInt K) (fun (s : m_law_runs_L8T) => s.2), .fz (tInt K) (fun (s : m_law_runs_L8T) => (m_law_runs_v_last_10 s))] : Ctx K m_law_runs_L8T)) (Δa := ([.ow (oList (tInt K)) (fun (s : m_law_runs_L8T) => (m_law_runs_c9 s).1), .fz (tInt K) (fun (s : m_law_runs_L8T) => s.1.1.2.1), .fz (tInt K) (fun (s : m_law_runs_L8T) => s.1.1.2.2.1), .ow (oList (tTp [(tInt K), (tInt K)])) (fun (s : m_law_runs_L8T) => (m_law_runs_v_found_11 s)), .fz (tInt K) (fun (s : m_law_runs_L8T) => s.1.2.2.2), .fz (tInt K) (fun (s : m_law_runs_L8T) => (m_law_runs_v_wide_6 s.1.1)), .fz (tInt K) (fun (s : m_law_runs_L8T) => s.2), .fz (tInt K) (fun (s : m_law_runs_L8T) => (m_law_runs_v_last_10 s))] : Ctx K m_law_runs_L8T)) (Δb := ([.ow (oList (tInt K)) (fun (s : m_law_runs_L8T) => (m_law_runs_c9 s).1), .fz (tInt K) (fun (s : m_law_runs_L8T) => s.1.1.2.1), .fz (tInt K) (fun (s : m_law_runs_L8T) => s.1.1.2.2.1), .ow (oList (tTp [(tInt K), (tInt K)])) (fun (s : m_law_runs_L8T) => s.1.2.2.1), .fz (tInt K) (fun (s : m_law_runs_L8T) => s.1.2.2.2), .fz (tInt K) (fun (s : m_law_runs_L8T) => (m_law_runs_v_wide_6 s.1.1)), .fz (tInt K) (fun (s : m_law_runs_L8T) => s.2), .fz (tInt K) (fun (s : m_law_runs_L8T) => (m_law_runs_v_last_10 s))] : Ctx K m_law_runs_L8T)) (DT.conv (DT.lt (DX.var (i := 7) rfl) (DX.var (i := 1) rfl)) rfl rfl (by exact rfl)) (by exact trivial) (
        DN.cons (Δ1 := ([.ow (oList (tInt K)) (fun (s : m_law_runs_L8T) => (m_law_runs_c9 s).1), .fz (tInt K) (fun (s : m_law_runs_L8T) => s.1.1.2.1), .fz (tInt K) (fun (s : m_law_runs_L8T) => s.1.1.2.2.1), .ow (oList (tTp [(tInt K), (tInt K)])) (fun (s : m_law_runs_L8T) => (m_law_runs_v_found_11 s)), .fz (tInt K) (fun (s : m_law_runs_L8T) => s.1.2.2.2), .fz (tInt K) (fun (s : m_law_runs_L8T) => (m_law_runs_v_wide_6 s.1.1)), .fz (tInt K) (fun (s : m_law_runs_L8T) => s.2), .fz (tInt K) (fun (s : m_law_runs_L8T) => (m_law_runs_v_last_10 s))] : Ctx K m_law_runs_L8T)) (DS.conv (DS.expr (DX.append (i := 3) (DX.tup (DTs.cons (DX.var (i := 4) rfl) (DTs.one (DX.var (i := 7) rfl))) (hl := (by decide : 2 ≤ sizeLine))) rfl rfl) (by exact ⟨⟨_, _, rfl⟩, trivial⟩)) rfl (by exact rfl)) <|
        DN.fin rfl
      ) (
        DN.fin rfl
      ) (.same (.same (.same (.ow (.same (.same (.same (.same .nil))))))))) rfl rfl) <|
      DN.cons (Δ1 := ([.ow (oList (tInt K)) (fun (s : m_law_runs_L8T) => (m_law_runs_c15 s).1), .fz (tInt K) (fun (s : m_law_runs_L8T) => s.1.1.2.1), .fz (tInt K) (fun (s : m_law_runs_L8T) => s.1.1.2.2.1), .ow (oList (tTp [(tInt K), (tInt K)])) (fun (s : m_law_runs_L8T) => (m_law_runs_v_found_13 s)), .fz (tInt K) (fun (s : m_law_runs_L8T) => (m_law_runs_v_here_16 s)), .fz (tInt K) (fun (s : m_law_runs_L8T) => (m_law_runs_v_wide_6 s.1.1)), .fz (tInt K) (fun (s : m_law_runs_L8T) => s.2), .fz (tInt K) (fun (s : m_law_runs_L8T) => (m_law_runs_v_last_10 s))] : Ctx K m_law_runs_L8T)) (DS.conv (DS.asg (DX.add (DX.add (DX.var (i := 7) rfl) DX.int) (DX.ofC (fm := m_law_draw_fm K) (τ := (tInt K)) (DC.call ((m_law_draw_ok T).mono (by decide)) hr T.g31 T.F31.kp T.b31 (DA.mu (j := 0) rfl (DA.cons (DX.ix (ll_list (τ := (tInt K))) (0 : Int) (DX.ofL (DO.lst (τ := (tInt K)) (DL.cons DX.int (DL.cons (DX.var (i := 5) rfl) DL.nil)) (hl := fun _ => (by decide : 2 ≤ sizeLine)))) (DX.ofC (fm := m_law_draw_fm K) (τ := (tInt K)) (DC.call ((m_law_draw_ok T).mono (by decide)) hr T.g31 T.F31.kp T.b31 (DA.mu (j := 0) rfl (DA.cons DX.int DA.nil)) (.mu rfl (.fz .nil)) (.mu (.fz .nil)) nd1 (by exact ⟨⟨_, _, rfl⟩, trivial⟩)) rfl (fun _ => HEq.rfl))) DA.nil)) (.mu rfl (.fz .nil)) (.mu (.fz .nil)) nd1 (by exact ⟨⟨_, _, rfl⟩, trivial⟩)) rfl (fun _ => HEq.rfl))) (DG.name (i := 4) sc33.nd rfl (.inl rfl)) (by exact ⟨⟨_, _, rfl⟩, ⟨⟨_, _, rfl⟩, trivial⟩⟩) (by show ∀ j ∈ ([4] : List Nat), j ∉ ([0] : List Nat); decide)) rfl (by exact rfl)) <|
      DN.fin rfl
    ) (.ow (ω := (oList (tInt K))) (pr := fun (m : m_law_runs_L8M) => m.1) (fun _ => by rfl) (.keep (sl := .fz (tInt K) (fun (s : m_law_runs_S) => s.2.1)) (.keep (sl := .fz (tInt K) (fun (s : m_law_runs_S) => s.2.2.1)) (.ow (ω := (oList (tTp [(tInt K), (tInt K)]))) (pr := fun (m : m_law_runs_L8M) => m.2.1) (fun _ => by rfl) (.fz (τ := (tInt K)) (pr := fun (m : m_law_runs_L8M) => m.2.2) (fun _ => by rfl) (.keep (sl := .fz (tInt K) (fun (s : m_law_runs_S) => (m_law_runs_v_wide_6 s))) (.dead (.dead .nil))))))))) rfl rfl) <|
    DR.cons (Δ1 := ([.ow (oList (tInt K)) (fun (s : m_law_runs_S) => (m_law_runs_v_bag_here_18 s)), .fz (tInt K) (fun (s : m_law_runs_S) => s.2.1), .fz (tInt K) (fun (s : m_law_runs_S) => s.2.2.1), .ow (oList (tTp [(tInt K), (tInt K)])) (fun (s : m_law_runs_S) => (m_law_runs_v_found_21 s)), .fz (tInt K) (fun (s : m_law_runs_S) => (m_law_runs_L8 s).2.2), .fz (tInt K) (fun (s : m_law_runs_S) => (m_law_runs_v_wide_6 s)), .dead, .dead] : Ctx K m_law_runs_S)) (DS.conv (DS.ite (h := fun (s : m_law_runs_S) => (m_law_runs_h20 s)) (Δ1 := ([.ow (oList (tInt K)) (fun (s : m_law_runs_S) => (m_law_runs_v_bag_here_18 s)), .fz (tInt K) (fun (s : m_law_runs_S) => s.2.1), .fz (tInt K) (fun (s : m_law_runs_S) => s.2.2.1), .ow (oList (tTp [(tInt K), (tInt K)])) (fun (s : m_law_runs_S) => (m_law_runs_L8 s).2.1), .fz (tInt K) (fun (s : m_law_runs_S) => (m_law_runs_L8 s).2.2), .fz (tInt K) (fun (s : m_law_runs_S) => (m_law_runs_v_wide_6 s)), .dead, .dead] : Ctx K m_law_runs_S)) (Δa := ([.ow (oList (tInt K)) (fun (s : m_law_runs_S) => (m_law_runs_v_bag_here_18 s)), .fz (tInt K) (fun (s : m_law_runs_S) => s.2.1), .fz (tInt K) (fun (s : m_law_runs_S) => s.2.2.1), .ow (oList (tTp [(tInt K), (tInt K)])) (fun (s : m_law_runs_S) => (m_law_runs_v_found_19 s)), .fz (tInt K) (fun (s : m_law_runs_S) => (m_law_runs_L8 s).2.2), .fz (tInt K) (fun (s : m_law_runs_S) => (m_law_runs_v_wide_6 s)), .dead, .dead] : Ctx K m_law_runs_S)) (Δb := ([.ow (oList (tInt K)) (fun (s : m_law_runs_S) => (m_law_runs_v_bag_here_18 s)), .fz (tInt K) (fun (s : m_law_runs_S) => s.2.1), .fz (tInt K) (fun (s : m_law_runs_S) => s.2.2.1), .ow (oList (tTp [(tInt K), (tInt K)])) (fun (s : m_law_runs_S) => (m_law_runs_L8 s).2.1), .fz (tInt K) (fun (s : m_law_runs_S) => (m_law_runs_L8 s).2.2), .fz (tInt K) (fun (s : m_law_runs_S) => (m_law_runs_v_wide_6 s)), .dead, .dead] : Ctx K m_law_runs_S)) (DT.conv (DT.borrowE 3 rfl (DW.t (DW.andE 0 (ω := (oList (tInt K))) (f1 := fun (s : m_law_runs_S) => (m_law_runs_c17 s).1) (DT.ne hr.rm (dat_list (dat_t2 dat_int dat_int)) (DX.var (i := 3) rfl) (DX.ofL (DO.lst (τ := (tTp [(tInt K), (tInt K)])) DL.nil (hl := fun _ => (by decide : 0 ≤ sizeLine)))) (hn := n64 (m := 3) rfl)) (DW.and1 (DT.eq hr.rm dat_int (DX.ofC (fm := m_law_draw_fm K) (τ := (tInt K)) (DC.call ((m_law_draw_ok T).mono (by decide)) hr T.g31 T.F31.kp T.b31 (DA.mu (j := 0) rfl (DA.cons DX.int DA.nil)) (.mu rfl (.fz .nil)) (.mu (.fz .nil)) nd1 (by exact ⟨⟨_, _, rfl⟩, trivial⟩)) rfl (fun _ => HEq.rfl)) DX.int (hn := n64 (m := 1) rfl))) rfl rfl (fun k h => by have h2 : k ∈ ([0] : List Nat) := h; simpa using h2))) (by show 3 ∉ ([0] : List Nat); decide) (by exact ⟨⟨_, _, rfl⟩, trivial⟩) (by exact ⟨⟨_, _, rfl, lfo_list lf_int⟩, trivial⟩)) rfl rfl (by exact rfl)) (by exact ⟨⟨_, _, rfl⟩, trivial⟩) (
      DN.cons (Δ1 := ([.ow (oList (tInt K)) (fun (s : m_law_runs_S) => (m_law_runs_v_bag_here_18 s)), .fz (tInt K) (fun (s : m_law_runs_S) => s.2.1), .fz (tInt K) (fun (s : m_law_runs_S) => s.2.2.1), .ow (oList (tTp [(tInt K), (tInt K)])) (fun (s : m_law_runs_S) => (m_law_runs_v_found_19 s)), .fz (tInt K) (fun (s : m_law_runs_S) => (m_law_runs_L8 s).2.2), .fz (tInt K) (fun (s : m_law_runs_S) => (m_law_runs_v_wide_6 s)), .dead, .dead] : Ctx K m_law_runs_S)) (DS.conv (DS.store (DX.borrowE 3 rfl (DX.tup (DTs.cons (DX.tix (k := 0) (DX.ix (ll_list (τ := (tTp [(tInt K), (tInt K)]))) ((0 : Int), (0 : Int)) (DX.var (i := 3) rfl) (DX.neg DX.int)) .zero) (DTs.one (DX.sub (DX.var (i := 1) rfl) DX.int))) (hl := (by decide : 2 ≤ sizeLine))) (lf_tup (lf_cons lf_int (lf_cons lf_int lf_nil))) (by show 3 ∉ ([] : List Nat); decide) (by exact trivial) (by exact trivial)) (DX.pu (DX.neg DX.int) rfl rfl) (by exact trivial) (i := 3) rfl) rfl (by exact rfl)) <|
      DN.fin rfl
    ) (
      DN.fin rfl
    ) (.same (.same (.same (.ow (.same (.same (.same (.same .nil))))))))) rfl rfl) <|
    DR.retN (f := fun (s : m_law_runs_S) => ((m_law_runs_v_bag_here_18 s), (m_law_runs_v_found_21 s))) (i := 3) rfl (by show 3 ∉ ([0] : List Nat); decide) (.mu rfl (.fz (.fz .nil))) ⟨rfl, fun _ => HEq.rfl, fun _ => rfl⟩
    ) (by exact fun _ => (hide_eq _).symm) (by exact fun _ h => h)
theorem mis_integer_ok (T : Tx K mg) : FnG P w K mg base CX0 1 T.a6 T.d6 ["value", "least", "most"] (SpOf (mis_integer_fm K) mis_integer_p mis_integer) := by
  refine def_ok T.F6 sc6 rfl (by decide) fun cdv A outer s H E hr => ?_
  exact def_fin (Δ := ([.fz (tInt K) (fun (s : mis_integer_S) => s.1), .fz (tInt K) (fun (s : mis_integer_S) => s.2.1), .fz (tInt K) (fun (s : mis_integer_S) => s.2.2.1)] : Ctx K mis_integer_S)) (p := mis_integer_p) (fv := mis_integer) (
    DR.ret (f := fun (s : mis_integer_S) => (true && ((!false) && (pLe s.2.1 s.1 && pLe s.1 s.2.2.1)))) (DX.and (DX.isi (T2 := "int") (r := true) (DX.var (i := 0) rfl) kind_int (by decide +kernel) T.n_isinstance T.n_int (by decide +kernel)) (DX.and (DX.pu (DX.not (DX.isi (T2 := "bool") (r := false) (DX.var (i := 0) rfl) kind_int (by decide +kernel) T.n_isinstance T.n_bool (by decide +kernel))) rfl rfl) (DX.and1 (DX.pu (DX.chain ch_le ch_le (DX.var (i := 1) rfl) (DX.var (i := 0) rfl) (DX.pu (DX.var (i := 2) rfl) rfl rfl)) rfl rfl)))) (OwnAll.all (by exact trivial)) (.fz (.fz (.fz .nil))) ⟨rfl, fun _ => HEq.rfl, fun _ => rfl⟩
    ) (by exact fun _ => (hide_eq _).symm) (by exact fun _ h => h)
theorem mcheck_items_ok (T : Tx K mg) : FnG P w K mg base CX0 2 T.a7 T.d7 ["items"] (SpOf (mcheck_items_fm K) mcheck_items_p mcheck_items) := by
  refine def_ok T.F7 sc7 rfl (by decide) fun cdv A outer s H E hr => ?_
  exact def_finN (Δ := ([.fz (tInt K) (fun (s : mcheck_items_S) => s.1)] : Ctx K mcheck_items_S)) (p := mcheck_items_p) (fv := mcheck_items) (
    DN.cons (Δ1 := ([.fz (tInt K) (fun (s : mcheck_items_S) => s.1)] : Ctx K mcheck_items_S)) (DS.conv (DS.guard (DT.not (DT.ofX (DX.ofC (fm := mis_integer_fm K) (τ := (tBool K)) (DC.call ((mis_integer_ok T).mono (by decide)) hr T.g6 T.F6.kp T.b6 (DA.cons (DX.var (i := 0) rfl) (DA.cons DX.int (DA.cons (DX.glbI (by rfl) T.c_MOST_ITEMS) DA.nil))) (.fz (.fz (.fz .nil))) (.fz (.fz (.fz .nil))) List.nodup_nil (by exact trivial)) rfl (fun _ => HEq.rfl)))) (by exact trivial)) rfl (by exact rfl)) <|
    DN.fin rfl
    ) (.fz .nil) ⟨rfl, fun _ => HEq.rfl, fun _ => rfl⟩ (by exact fun _ h => h)
theorem mis_run_ok (T : Tx K mg) : FnG P w K mg base CX0 2 T.a8 T.d8 ["items", "value"] (SpOf (mis_run_fm K) mis_run_p mis_run) := by
  refine def_ok T.F8 sc8 rfl (by decide) fun cdv A outer s H E hr => ?_
  exact def_fin (Δ := ([.fz (tInt K) (fun (s : mis_run_S) => s.1), .fz (tTp [(tInt K), (tInt K)]) (fun (s : mis_run_S) => s.2.1)] : Ctx K mis_run_S)) (p := mis_run_p) (fv := mis_run) (
    DR.if1 (h := fun (s : mis_run_S) => ((!true) || ((!(dfInt).eq (2 : Int) (2 : Int)) || (!(mis_run_c1 s))))) (Δ1 := ([.fz (tInt K) (fun (s : mis_run_S) => s.1), .fz (tTp [(tInt K), (tInt K)]) (fun (s : mis_run_S) => s.2.1)] : Ctx K mis_run_S)) (DT.conv (DW.t (DW.or (DT.not (DT.ofX (DX.isi (T2 := "tuple") (r := true) (DX.var (i := 1) rfl) kind_tup (by decide +kernel) T.n_isinstance T.n_tuple (by decide +kernel)))) (DW.pu (DW.or (DT.ne hr.rm dat_int (DX.lenT (ts := [(tInt K), (tInt K)]) T.n_len (DX.var (i := 1) rfl)) DX.int (hn := n64 (m := 1) rfl)) (DW.pu (DW.or1 (DT.not (DT.ofX (DX.ofC (fm := mis_integer_fm K) (τ := (tBool K)) (DC.call ((mis_integer_ok T).mono (by decide)) hr T.g6 T.F6.kp T.b6 (DA.cons (DX.tix (k := 0) (DX.var (i := 1) rfl) .zero) (DA.cons DX.int (DA.cons (DX.sub (DX.var (i := 0) rfl) DX.int) DA.nil))) (.fz (.fz (.fz .nil))) (.fz (.fz (.fz .nil))) List.nodup_nil (by exact trivial)) rfl (fun _ => HEq.rfl))))) rfl rfl)) rfl rfl))) rfl rfl (by exact rfl)) (by exact trivial) (
      DR.ret (f := fun (s : mis_run_S) => false) DX.fls (OwnAll.all (by exact trivial)) (.fz (.fz .nil)) ⟨rfl, fun _ => HEq.rfl, fun _ => rfl⟩
    ) (
      DR.ret (f := fun (s : mis_run_S) => (mis_run_c2 s)) (DX.ofC (fm := mis_integer_fm K) (τ := (tBool K)) (DC.call ((mis_integer_ok T).mono (by decide)) hr T.g6 T.F6.kp T.b6 (DA.cons (DX.tix (k := 1) (DX.var (i := 1) rfl) (.succ .last)) (DA.cons (DX.tix (k := 0) (DX.var (i := 1) rfl) .zero) (DA.cons (DX.sub (DX.var (i := 0) rfl) DX.int) DA.nil))) (.fz (.fz (.fz .nil))) (.fz (.fz (.fz .nil))) List.nodup_nil (by exact trivial)) rfl (fun _ => HEq.rfl)) (OwnAll.all (by exact trivial)) (.fz (.fz .nil)) ⟨rfl, fun _ => HEq.rfl, fun _ => rfl⟩
    )
    ) (by exact fun _ => (hide_eq _).symm) (by exact fun _ h => h)
theorem mare_runs_ok (T : Tx K mg) : FnG P w K mg base CX0 3 T.a9 T.d9 ["items", "value"] (SpOf (mare_runs_fm K) mare_runs_p mare_runs) := by
  refine def_ok T.F9 sc9 rfl (by decide) fun cdv A outer s H E hr => ?_
  exact def_fin (Δ := ([.fz (tInt K) (fun (s : mare_runs_S) => s.1), .fz (tList (tTp [(tInt K), (tInt K)])) (fun (s : mare_runs_S) => s.2.1), .dead, .dead, .dead] : Ctx K mare_runs_S)) (p := mare_runs_p) (fv := mare_runs) (
    DR.if1 (h := fun (s : mare_runs_S) => ((!true) || (!(((lcV s.2.1 (fun x => true) (fun x => (mare_runs_c1 (s, x))))).all id)))) (Δ1 := ([.fz (tInt K) (fun (s : mare_runs_S) => s.1), .fz (tList (tTp [(tInt K), (tInt K)])) (fun (s : mare_runs_S) => s.2.1), .dead, .dead, .dead] : Ctx K mare_runs_S)) (DT.conv (DW.t (DW.or (DT.not (DT.ofX (DX.isi (T2 := "list") (r := true) (DX.var (i := 1) rfl) kind_list (by decide +kernel) T.n_isinstance T.n_list (by decide +kernel)))) (DW.pu (DW.or1 (DT.not (DT.ofX (DX.all T.n_all (DX.ofL (DO.lc (own := [("run", 2)]) (Δb := ([.fz (tInt K) (fun (s : (mare_runs_S × (Int × Int))) => s.1.1), .fz (tList (tTp [(tInt K), (tInt K)])) (fun (s : (mare_runs_S × (Int × Int))) => s.1.2.1), .fz (tTp [(tInt K), (tInt K)]) (fun (s : (mare_runs_S × (Int × Int))) => s.2), .dead, .dead] : Ctx K (mare_runs_S × (Int × Int)))) sc9.nd (DI.list ll_list (DX.var (i := 1) rfl)) (blkOk_by (N := ["items", "value", "run", "one", "other"]) (sc := defScope (topS 9)) (own := [("run", 2)]) (by decide +kernel)) (fun _ _ _ _ _ => (DG.name (i := 2) sc9.nd rfl (.inl rfl))) (fun _ _ _ _ _ => DTs'.nil) (fun _ _ _ _ _ => (DX.pu (DX.ofC (fm := mis_run_fm K) (τ := (tBool K)) (DC.call ((mis_run_ok T).mono (by decide)) hr T.g8 T.F8.kp T.b8 (DA.cons (DX.var (i := 0) rfl) (DA.cons (DX.var (i := 2) rfl) DA.nil)) (.fz (.fz .nil)) (.fz (.fz .nil)) List.nodup_nil (by exact trivial)) rfl (fun _ => HEq.rfl)) rfl rfl)) (by decide))))))) rfl rfl))) rfl rfl (by exact rfl)) (by exact trivial) (
      DR.ret (f := fun (s : mare_runs_S) => false) DX.fls (OwnAll.all (by exact trivial)) (.fz (.fz .nil)) ⟨rfl, fun _ => HEq.rfl, fun _ => rfl⟩
    ) (
      DR.ret (f := fun (s : mare_runs_S) => (((lcV (List.zip s.2.1 (cutL s.2.1 (some (1 : Int)) none)) (fun x => true) (fun x => (decide (((s, x).2.1.2 + (1 : Int)) < (s, x).2.2.1))))).all id)) (DX.all T.n_all (DX.ofL (DO.lc (own := [("one", 3), ("other", 4)]) (Δb := ([.fz (tInt K) (fun (s : (mare_runs_S × ((Int × Int) × (Int × Int)))) => s.1.1), .fz (tList (tTp [(tInt K), (tInt K)])) (fun (s : (mare_runs_S × ((Int × Int) × (Int × Int)))) => s.1.2.1), .dead, .fz (tTp [(tInt K), (tInt K)]) (fun (s : (mare_runs_S × ((Int × Int) × (Int × Int)))) => s.2.1), .fz (tTp [(tInt K), (tInt K)]) (fun (s : (mare_runs_S × ((Int × Int) × (Int × Int)))) => s.2.2)] : Ctx K (mare_runs_S × ((Int × Int) × (Int × Int))))) sc9.nd (DI.zip ll_list ll_list T.n_zip (DX.var (i := 1) rfl) (DX.ofL (DO.sl ll_list (DX.var (i := 1) rfl) (DPo.some DX.int) DPo.none))) (blkOk_by (N := ["items", "value", "run", "one", "other"]) (sc := defScope (topS 9)) (own := [("one", 3), ("other", 4)]) (by decide +kernel)) (fun _ _ _ _ _ => (DG.tup (DGs.cons (DG.name (i := 3) sc9.nd rfl (.inl rfl)) (DGs.one (DG.name (i := 4) sc9.nd rfl (.inl rfl)))))) (fun _ _ _ _ _ => DTs'.nil) (fun _ _ _ _ _ => (DX.pu (DX.lt (DX.add (DX.tix (k := 1) (DX.var (i := 3) rfl) (.succ .last)) DX.int) (DX.tix (k := 0) (DX.var (i := 4) rfl) .zero)) rfl rfl)) (by decide)))) (OwnAll.all (by exact trivial)) (.fz (.fz .nil)) ⟨rfl, fun _ => HEq.rfl, fun _ => rfl⟩
    )
    ) (by exact fun _ => (hide_eq _).symm) (by exact fun _ h => h)
theorem mcheck_selection_ok (T : Tx K mg) : FnG P w K mg base CX0 4 T.a10 T.d10 ["items", "selection"] (SpOf (mcheck_selection_fm K) mcheck_selection_p mcheck_selection) := by
  refine def_ok T.F10 sc10 rfl (by decide) fun cdv A outer s H E hr => ?_
  exact def_finN (Δ := ([.fz (tInt K) (fun (s : mcheck_selection_S) => s.1), .fz (tList (tTp [(tInt K), (tInt K)])) (fun (s : mcheck_selection_S) => s.2.1)] : Ctx K mcheck_selection_S)) (p := mcheck_selection_p) (fv := mcheck_selection) (
    DN.cons (Δ1 := ([.fz (tInt K) (fun (s : mcheck_selection_S) => s.1), .fz (tList (tTp [(tInt K), (tInt K)])) (fun (s : mcheck_selection_S) => s.2.1)] : Ctx K mcheck_selection_S)) (DS.conv (DS.guard (DT.not (DT.ofX (DX.ofC (fm := mare_runs_fm K) (τ := (tBool K)) (DC.call ((mare_runs_ok T).mono (by decide)) hr T.g9 T.F9.kp T.b9 (DA.cons (DX.var (i := 0) rfl) (DA.cons (DX.var (i := 1) rfl) DA.nil)) (.fz (.fz .nil)) (.fz (.fz .nil)) List.nodup_nil (by exact trivial)) rfl (fun _ => HEq.rfl)))) (by exact trivial)) rfl (by exact rfl)) <|
    DN.fin rfl
    ) (.fz (.fz .nil)) ⟨rfl, fun _ => HEq.rfl, fun _ => rfl⟩ (by exact fun _ h => h)
theorem mborders_in_ok (T : Tx K mg) : FnG P w K mg base CX0 1 T.a11 T.d11 ["selection"] (SpOf (mborders_in_fm K) mborders_in_p mborders_in) := by
  refine def_ok T.F11 sc11 rfl (by decide) fun cdv A outer s H E hr => ?_
  exact def_fin (Δ := ([.fz (tList (tTp [(tInt K), (tInt K)])) (fun (s : mborders_in_S) => s.1), .dead, .dead, .dead] : Ctx K mborders_in_S)) (p := mborders_in_p) (fv := mborders_in) (
    DR.cons (Δ1 := ([.fz (tList (tTp [(tInt K), (tInt K)])) (fun (s : mborders_in_S) => s.1), .ow (oList (tInt K)) (fun (s : mborders_in_S) => (mborders_in_v_borders_1 s)), .dead, .dead] : Ctx K mborders_in_S)) (DS.conv (DS.setO (DO.lst (τ := (tInt K)) DL.nil (hl := fun _ => (by decide : 0 ≤ sizeLine))) (by exact trivial) sc11.nd (i := 1) rfl (.inl rfl) (by show 1 ∉ ([] : List Nat); decide)) rfl (by exact rfl)) <|
    DR.cons (Δ1 := ([.fz (tList (tTp [(tInt K), (tInt K)])) (fun (s : mborders_in_S) => s.1), .ow (oList (tInt K)) (fun (s : mborders_in_S) => (mborders_in_L2 s)), .dead, .dead] : Ctx K mborders_in_S)) (DS.conv (DS.forH (S := mborders_in_S) (M := mborders_in_L2M) (τ := (tTp [(tInt K), (tInt K)])) (init := fun s => mborders_in_L2i s) (step := fun s => mborders_in_L2s s) (fx := fun s => mborders_in_L2x s) (Δ1 := ([.fz (tList (tTp [(tInt K), (tInt K)])) (fun (s : mborders_in_S) => s.1), .ow (oList (tInt K)) (fun (s : mborders_in_S) => (mborders_in_v_borders_1 s)), .dead, .dead] : Ctx K mborders_in_S)) (Δl := ([.fz (tList (tTp [(tInt K), (tInt K)])) (fun (s : (mborders_in_S × mborders_in_L2M)) => s.1.1), .ow (oList (tInt K)) (fun (s : (mborders_in_S × mborders_in_L2M)) => s.2), .dead, .dead] : Ctx K (mborders_in_S × mborders_in_L2M))) (Δb := ([.fz (tList (tTp [(tInt K), (tInt K)])) (fun (s : mborders_in_L2T) => s.1.1.1), .ow (oList (tInt K)) (fun (s : mborders_in_L2T) => s.1.2), .fz (tInt K) (fun (s : mborders_in_L2T) => s.2.1), .fz (tInt K) (fun (s : mborders_in_L2T) => s.2.2)] : Ctx K mborders_in_L2T)) (Δe := ([.fz (tList (tTp [(tInt K), (tInt K)])) (fun (s : mborders_in_L2T) => s.1.1.1), .ow (oList (tInt K)) (fun (s : mborders_in_L2T) => (mborders_in_v_borders_3 s)), .fz (tInt K) (fun (s : mborders_in_L2T) => s.2.1), .fz (tInt K) (fun (s : mborders_in_L2T) => s.2.2)] : Ctx K mborders_in_L2T)) (DI.conv (DI.list ll_list (DX.var (i := 0) rfl)) rfl rfl (by exact rfl)) (by exact trivial) (.keep (.ow (ω := (oList (tInt K))) (fun (m : mborders_in_L2M) => m) (fun _ => by rfl) (.dead (.dead .nil)))) (DG.tup (DGs.cons (DG.name (i := 2) sc11.nd rfl (.inl rfl)) (DGs.one (DG.name (i := 3) sc11.nd rfl (.inl rfl))))) (by show ∀ j ∈ ([2, 3] : List Nat), j ∉ ([] : List Nat); decide) (
      DN.cons (Δ1 := ([.fz (tList (tTp [(tInt K), (tInt K)])) (fun (s : mborders_in_L2T) => s.1.1.1), .ow (oList (tInt K)) (fun (s : mborders_in_L2T) => (mborders_in_v_borders_3 s)), .fz (tInt K) (fun (s : mborders_in_L2T) => s.2.1), .fz (tInt K) (fun (s : mborders_in_L2T) => s.2.2)] : Ctx K mborders_in_L2T)) (DS.conv (DS.augL (DO.pu (DO.lst (τ := (tInt K)) (DL.cons (DX.var (i := 2) rfl) (DL.cons (DX.add (DX.var (i := 3) rfl) DX.int) DL.nil)) (hl := fun _ => (by decide : 2 ≤ sizeLine))) rfl rfl) (i := 1) rfl sc11.nd rfl (.inl rfl)) rfl (by exact rfl)) <|
      DN.fin rfl
    ) (.keep (sl := .fz (tList (tTp [(tInt K), (tInt K)])) (fun (s : mborders_in_S) => s.1)) (.ow (ω := (oList (tInt K))) (pr := fun (m : mborders_in_L2M) => m) (fun _ => by rfl) (.dead (.dead .nil))))) rfl rfl) <|
    DR.retN (f := fun (s : mborders_in_S) => (mborders_in_L2 s)) (i := 1) rfl (by show 1 ∉ ([] : List Nat); decide) (.fz .nil) ⟨rfl, fun _ => HEq.rfl, fun _ => rfl⟩
    ) (by exact fun _ => (hide_eq _).symm) (by exact fun _ h => h)
theorem mblocks_in_ok (T : Tx K mg) : FnG P w K mg base CX0 1 T.a13 T.d13 ["borders"] (SpOf (mblocks_in_fm K) mblocks_in_p mblocks_in) := by
  refine def_ok T.F13 sc13 rfl (by decide) fun cdv A outer s H E hr => ?_
  exact def_fin (Δ := ([.fz (tList (tInt K)) (fun (s : mblocks_in_S) => s.1), .dead, .dead] : Ctx K mblocks_in_S)) (p := mblocks_in_p) (fv := mblocks_in) (
    DR.cons (Δ1 := ([.fz (tList (tInt K)) (fun (s : mblocks_in_S) => s.1), .ow (oList (tTp [(tInt K), (tInt K)])) (fun (s : mblocks_in_S) => (mblocks_in_v_blocks_1 s)), .dead] : Ctx K mblocks_in_S)) (DS.conv (DS.setO (DO.lst (τ := (tTp [(tInt K), (tInt K)])) DL.nil (hl := fun _ => (by decide : 0 ≤ sizeLine))) (by exact trivial) sc13.nd (i := 1) rfl (.inl rfl) (by show 1 ∉ ([] : List Nat); decide)) rfl (by exact rfl)) <|
    DR.cons (Δ1 := ([.fz (tList (tInt K)) (fun (s : mblocks_in_S) => s.1), .ow (oList (tTp [(tInt K), (tInt K)])) (fun (s : mblocks_in_S) => (mblocks_in_L2 s)), .dead] : Ctx K mblocks_in_S)) (DS.conv (DS.forH (S := mblocks_in_S) (M := mblocks_in_L2M) (τ := (tInt K)) (init := fun s => mblocks_in_L2i s) (step := fun s => mblocks_in_L2s s) (fx := fun s => mblocks_in_L2x s) (Δ1 := ([.fz (tList (tInt K)) (fun (s : mblocks_in_S) => s.1), .ow (oList (tTp [(tInt K), (tInt K)])) (fun (s : mblocks_in_S) => (mblocks_in_v_blocks_1 s)), .dead] : Ctx K mblocks_in_S)) (Δl := ([.fz (tList (tInt K)) (fun (s : (mblocks_in_S × mblocks_in_L2M)) => s.1.1), .ow (oList (tTp [(tInt K), (tInt K)])) (fun (s : (mblocks_in_S × mblocks_in_L2M)) => s.2), .dead] : Ctx K (mblocks_in_S × mblocks_in_L2M))) (Δb := ([.fz (tList (tInt K)) (fun (s : mblocks_in_L2T) => s.1.1.1), .ow (oList (tTp [(tInt K), (tInt K)])) (fun (s : mblocks_in_L2T) => s.1.2), .fz (tInt K) (fun (s : mblocks_in_L2T) => s.2)] : Ctx K mblocks_in_L2T)) (Δe := ([.fz (tList (tInt K)) (fun (s : mblocks_in_L2T) => s.1.1.1), .ow (oList (tTp [(tInt K), (tInt K)])) (fun (s : mblocks_in_L2T) => (mblocks_in_v_blocks_6 s)), .fz (tInt K) (fun (s : mblocks_in_L2T) => s.2)] : Ctx K mblocks_in_L2T)) (DI.conv (DI.list ll_list (DX.var (i := 0) rfl)) rfl rfl (by exact rfl)) (by exact trivial) (.keep (.ow (ω := (oList (tTp [(tInt K), (tInt K)]))) (fun (m : mblocks_in_L2M) => m) (fun _ => by rfl) (.dead .nil))) (DG.name (i := 2) sc13.nd rfl (.inl rfl)) (by show ∀ j ∈ ([2] : List Nat), j ∉ ([] : List Nat); decide) (
      DN.cons (Δ1 := ([.fz (tList (tInt K)) (fun (s : mblocks_in_L2T) => s.1.1.1), .ow (oList (tTp [(tInt K), (tInt K)])) (fun (s : mblocks_in_L2T) => (mblocks_in_v_blocks_6 s)), .fz (tInt K) (fun (s : mblocks_in_L2T) => s.2)] : Ctx K mblocks_in_L2T)) (DS.conv (DS.ite (h := fun (s : mblocks_in_L2T) => (mblocks_in_h5 s)) (Δ1 := ([.fz (tList (tInt K)) (fun (s : mblocks_in_L2T) => s.1.1.1), .ow (oList (tTp [(tInt K), (tInt K)])) (fun (s : mblocks_in_L2T) => s.1.2), .fz (tInt K) (fun (s : mblocks_in_L2T) => s.2)] : Ctx K mblocks_in_L2T)) (Δa := ([.fz (tList (tInt K)) (fun (s : mblocks_in_L2T) => s.1.1.1), .ow (oList (tTp [(tInt K), (tInt K)])) (fun (s : mblocks_in_L2T) => (mblocks_in_v_blocks_3 s)), .fz (tInt K) (fun (s : mblocks_in_L2T) => s.2)] : Ctx K mblocks_in_L2T)) (Δb := ([.fz (tList (tInt K)) (fun (s : mblocks_in_L2T) => s.1.1.1), .ow (oList (tTp [(tInt K), (tInt K)])) (fun (s : mblocks_in_L2T) => (mblocks_in_v_blocks_4 s)), .fz (tInt K) (fun (s : mblocks_in_L2T) => s.2)] : Ctx K mblocks_in_L2T)) (DT.conv (DT.borrowE 1 rfl (DW.t (DW.and (DT.ne hr.rm (dat_list (dat_t2 dat_int dat_int)) (DX.var (i := 1) rfl) (DX.ofL (DO.lst (τ := (tTp [(tInt K), (tInt K)])) DL.nil (hl := fun _ => (by decide : 0 ≤ sizeLine)))) (hn := n64 (m := 3) rfl)) (DW.pu (DW.and1 (DT.eq hr.rm dat_int (DX.add (DX.tix (k := 1) (DX.ix (ll_list (τ := (tTp [(tInt K), (tInt K)]))) ((0 : Int), (0 : Int)) (DX.var (i := 1) rfl) (DX.neg DX.int)) (.succ .last)) DX.int) (DX.var (i := 2) rfl) (hn := n64 (m := 1) rfl))) rfl rfl))) (by show 1 ∉ ([] : List Nat); decide) (by exact trivial) (by exact trivial)) rfl rfl (by exact rfl)) (by exact trivial) (
        DN.cons (Δ1 := ([.fz (tList (tInt K)) (fun (s : mblocks_in_L2T) => s.1.1.1), .ow (oList (tTp [(tInt K), (tInt K)])) (fun (s : mblocks_in_L2T) => (mblocks_in_v_blocks_3 s)), .fz (tInt K) (fun (s : mblocks_in_L2T) => s.2)] : Ctx K mblocks_in_L2T)) (DS.conv (DS.store (DX.borrowE 1 rfl (DX.tup (DTs.cons (DX.tix (k := 0) (DX.ix (ll_list (τ := (tTp [(tInt K), (tInt K)]))) ((0 : Int), (0 : Int)) (DX.var (i := 1) rfl) (DX.neg DX.int)) .zero) (DTs.one (DX.var (i := 2) rfl))) (hl := (by decide : 2 ≤ sizeLine))) (lf_tup (lf_cons lf_int (lf_cons lf_int lf_nil))) (by show 1 ∉ ([] : List Nat); decide) (by exact trivial) (by exact trivial)) (DX.pu (DX.neg DX.int) rfl rfl) (by exact trivial) (i := 1) rfl) rfl (by exact rfl)) <|
        DN.fin rfl
      ) (
        DN.cons (Δ1 := ([.fz (tList (tInt K)) (fun (s : mblocks_in_L2T) => s.1.1.1), .ow (oList (tTp [(tInt K), (tInt K)])) (fun (s : mblocks_in_L2T) => (mblocks_in_v_blocks_4 s)), .fz (tInt K) (fun (s : mblocks_in_L2T) => s.2)] : Ctx K mblocks_in_L2T)) (DS.conv (DS.expr (DX.append (i := 1) (DX.tup (DTs.cons (DX.var (i := 2) rfl) (DTs.one (DX.var (i := 2) rfl))) (hl := (by decide : 2 ≤ sizeLine))) rfl rfl) (by exact ⟨⟨_, _, rfl⟩, trivial⟩)) rfl (by exact rfl)) <|
        DN.fin rfl
      ) (.same (.ow (.same .nil)))) rfl rfl) <|
      DN.fin rfl
    ) (.keep (sl := .fz (tList (tInt K)) (fun (s : mblocks_in_S) => s.1)) (.ow (ω := (oList (tTp [(tInt K), (tInt K)]))) (pr := fun (m : mblocks_in_L2M) => m) (fun _ => by rfl) (.dead .nil)))) rfl rfl) <|
    DR.retN (f := fun (s : mblocks_in_S) => (mblocks_in_L2 s)) (i := 1) rfl (by show 1 ∉ ([] : List Nat); decide) (.fz .nil) ⟨rfl, fun _ => HEq.rfl, fun _ => rfl⟩
    ) (by exact fun _ => (hide_eq _).symm) (by exact fun _ h => h)
theorem mcost_of_borders_ok (T : Tx K mg) : FnG P w K mg base CX0 2 T.a18 T.d18 ["borders"] (SpOf (mcost_of_borders_fm K) mcost_of_borders_p mcost_of_borders) := by
  refine def_ok T.F18 sc18 rfl (by decide) fun cdv A outer s H E hr => ?_
  exact def_fin (Δ := ([.fz (tList (tInt K)) (fun (s : mcost_of_borders_S) => s.1), .dead, .dead] : Ctx K mcost_of_borders_S)) (p := mcost_of_borders_p) (fv := mcost_of_borders) (
    DR.ret (f := fun (s : mcost_of_borders_S) => ((lcV (mcost_of_borders_c1 s) (fun x => true) (fun x => ((((s, x).2.2 - (s, x).2.1) + (2 : Int)) / (2 : Int))))).sum) (DX.sum ll_list T.n_sum (DX.ofL (DO.lc (own := [("first", 1), ("last", 2)]) (Δb := ([.fz (tList (tInt K)) (fun (s : (mcost_of_borders_S × (Int × Int))) => s.1.1), .fz (tInt K) (fun (s : (mcost_of_borders_S × (Int × Int))) => s.2.1), .fz (tInt K) (fun (s : (mcost_of_borders_S × (Int × Int))) => s.2.2)] : Ctx K (mcost_of_borders_S × (Int × Int)))) sc18.nd (DI.list ll_list (DX.ofL (DO.ofC (fm := mblocks_in_fm K) (ω := (oList (tTp [(tInt K), (tInt K)]))) (DC.call ((mblocks_in_ok T).mono (by decide)) hr T.g13 T.F13.kp T.b13 (DA.cons (DX.var (i := 0) rfl) DA.nil) (.fz .nil) (.fz .nil) List.nodup_nil (by exact trivial)) rfl (fun _ => HEq.rfl)))) (blkOk_by (N := ["borders", "first", "last"]) (sc := defScope (topS 18)) (own := [("first", 1), ("last", 2)]) (by decide +kernel)) (fun _ _ _ _ _ => (DG.tup (DGs.cons (DG.name (i := 1) sc18.nd rfl (.inl rfl)) (DGs.one (DG.name (i := 2) sc18.nd rfl (.inl rfl)))))) (fun _ _ _ _ _ => DTs'.nil) (fun _ _ _ _ _ => (DX.pu (DX.fdiv (DX.add (DX.sub (DX.var (i := 2) rfl) (DX.var (i := 1) rfl)) DX.int) DX.int) rfl rfl)) (by decide)))) (OwnAll.all (by exact trivial)) (.fz .nil) ⟨rfl, fun _ => HEq.rfl, fun _ => rfl⟩
    ) (by exact fun _ => (hide_eq _).symm) (by exact fun _ h => h)
theorem mcost_of_ok (T : Tx K mg) : FnG P w K mg base CX0 3 T.a19 T.d19 ["selection"] (SpOf (mcost_of_fm K) mcost_of_p mcost_of) := by
  refine def_ok T.F19 sc19 rfl (by decide) fun cdv A outer s H E hr => ?_
  exact def_fin (Δ := ([.fz (tList (tTp [(tInt K), (tInt K)])) (fun (s : mcost_of_S) => s.1)] : Ctx K mcost_of_S)) (p := mcost_of_p) (fv := mcost_of) (
    DR.ret (f := fun (s : mcost_of_S) => (mcost_of_c2 s)) (DX.ofC (fm := mcost_of_borders_fm K) (τ := (tInt K)) (DC.call ((mcost_of_borders_ok T).mono (by decide)) hr T.g18 T.F18.kp T.b18 (DA.cons (DX.ofL (DO.ofC (fm := mborders_in_fm K) (ω := (oList (tInt K))) (DC.call ((mborders_in_ok T).mono (by decide)) hr T.g11 T.F11.kp T.b11 (DA.cons (DX.var (i := 0) rfl) DA.nil) (.fz .nil) (.fz .nil) List.nodup_nil (by exact trivial)) rfl (fun _ => HEq.rfl))) DA.nil) (.fz .nil) (.fz .nil) List.nodup_nil (by exact trivial)) rfl (fun _ => HEq.rfl)) (OwnAll.all (by exact trivial)) (.fz .nil) ⟨rfl, fun _ => HEq.rfl, fun _ => rfl⟩
    ) (by exact fun _ => (hide_eq _).symm) (by exact fun _ h => h)
theorem mcost_ok (T : Tx K mg) : FnG P w K mg base CX0 5 T.a20 T.d20 ["items", "selection"] (SpOf (mcost_fm K) mcost_p mcost) := by
  refine def_ok T.F20 sc20 rfl (by decide) fun cdv A outer s H E hr => ?_
  exact def_fin (Δ := ([.fz (tInt K) (fun (s : mcost_S) => s.1), .fz (tList (tTp [(tInt K), (tInt K)])) (fun (s : mcost_S) => s.2.1)] : Ctx K mcost_S)) (p := mcost_p) (fv := mcost) (
    DR.cons (Δ1 := ([.fz (tInt K) (fun (s : mcost_S) => s.1), .fz (tList (tTp [(tInt K), (tInt K)])) (fun (s : mcost_S) => s.2.1)] : Ctx K mcost_S)) (DS.conv (DS.expr (DX.ofC (fm := mcheck_items_fm K) (τ := (tNone K)) (DC.call ((mcheck_items_ok T).mono (by decide)) hr T.g7 T.F7.kp T.b7 (DA.cons (DX.var (i := 0) rfl) DA.nil) (.fz .nil) (.fz .nil) List.nodup_nil (by exact trivial)) rfl (fun _ => HEq.rfl)) (by exact trivial)) rfl (by exact rfl)) <|
    DR.cons (Δ1 := ([.fz (tInt K) (fun (s : mcost_S) => s.1), .fz (tList (tTp [(tInt K), (tInt K)])) (fun (s : mcost_S) => s.2.1)] : Ctx K mcost_S)) (DS.conv (DS.expr (DX.ofC (fm := mcheck_selection_fm K) (τ := (tNone K)) (DC.call ((mcheck_selection_ok T).mono (by decide)) hr T.g10 T.F10.kp T.b10 (DA.cons (DX.var (i := 0) rfl) (DA.cons (DX.var (i := 1) rfl) DA.nil)) (.fz (.fz .nil)) (.fz (.fz .nil)) List.nodup_nil (by exact trivial)) rfl (fun _ => HEq.rfl)) (by exact trivial)) rfl (by exact rfl)) <|
    DR.ret (f := fun (s : mcost_S) => (mcost_c3 s)) (DX.ofC (fm := mcost_of_fm K) (τ := (tInt K)) (DC.call ((mcost_of_ok T).mono (by decide)) hr T.g19 T.F19.kp T.b19 (DA.cons (DX.var (i := 1) rfl) DA.nil) (.fz .nil) (.fz .nil) List.nodup_nil (by exact trivial)) rfl (fun _ => HEq.rfl)) (OwnAll.all (by exact trivial)) (.fz (.fz .nil)) ⟨rfl, fun _ => HEq.rfl, fun _ => rfl⟩
    ) (by exact fun _ => (hide_eq _).symm) (by exact fun _ h => h)
theorem mborders_of_ok (T : Tx K mg) : FnG P w K mg base CX0 5 T.a14 T.d14 ["items", "selection"] (SpOf (mborders_of_fm K) mborders_of_p mborders_of) := by
  refine def_ok T.F14 sc14 rfl (by decide) fun cdv A outer s H E hr => ?_
  exact def_fin (Δ := ([.fz (tInt K) (fun (s : mborders_of_S) => s.1), .fz (tList (tTp [(tInt K), (tInt K)])) (fun (s : mborders_of_S) => s.2.1)] : Ctx K mborders_of_S)) (p := mborders_of_p) (fv := mborders_of) (
    DR.cons (Δ1 := ([.fz (tInt K) (fun (s : mborders_of_S) => s.1), .fz (tList (tTp [(tInt K), (tInt K)])) (fun (s : mborders_of_S) => s.2.1)] : Ctx K mborders_of_S)) (DS.conv (DS.expr (DX.ofC (fm := mcheck_items_fm K) (τ := (tNone K)) (DC.call ((mcheck_items_ok T).mono (by decide)) hr T.g7 T.F7.kp T.b7 (DA.cons (DX.var (i := 0) rfl) DA.nil) (.fz .nil) (.fz .nil) List.nodup_nil (by exact trivial)) rfl (fun _ => HEq.rfl)) (by exact trivial)) rfl (by exact rfl)) <|
    DR.cons (Δ1 := ([.fz (tInt K) (fun (s : mborders_of_S) => s.1), .fz (tList (tTp [(tInt K), (tInt K)])) (fun (s : mborders_of_S) => s.2.1)] : Ctx K mborders_of_S)) (DS.conv (DS.expr (DX.ofC (fm := mcheck_selection_fm K) (τ := (tNone K)) (DC.call ((mcheck_selection_ok T).mono (by decide)) hr T.g10 T.F10.kp T.b10 (DA.cons (DX.var (i := 0) rfl) (DA.cons (DX.var (i := 1) rfl) DA.nil)) (.fz (.fz .nil)) (.fz (.fz .nil)) List.nodup_nil (by exact trivial)) rfl (fun _ => HEq.rfl)) (by exact trivial)) rfl (by exact rfl)) <|
    DR.retO (f := fun (s : mborders_of_S) => (mborders_of_c3 s)) (DO.ofC (fm := mborders_in_fm K) (ω := (oList (tInt K))) (DC.call ((mborders_in_ok T).mono (by decide)) hr T.g11 T.F11.kp T.b11 (DA.cons (DX.var (i := 1) rfl) DA.nil) (.fz .nil) (.fz .nil) List.nodup_nil (by exact trivial)) rfl (fun _ => HEq.rfl)) (OwnAll.all (by exact trivial)) (.fz (.fz .nil)) ⟨rfl, fun _ => HEq.rfl, fun _ => rfl⟩
    ) (by exact fun _ => (hide_eq _).symm) (by exact fun _ h => h)
theorem mblocks_of_ok (T : Tx K mg) : FnG P w K mg base CX0 5 T.a15 T.d15 ["items", "selection"] (SpOf (mblocks_of_fm K) mblocks_of_p mblocks_of) := by
  refine def_ok T.F15 sc15 rfl (by decide) fun cdv A outer s H E hr => ?_
  exact def_fin (Δ := ([.fz (tInt K) (fun (s : mblocks_of_S) => s.1), .fz (tList (tTp [(tInt K), (tInt K)])) (fun (s : mblocks_of_S) => s.2.1)] : Ctx K mblocks_of_S)) (p := mblocks_of_p) (fv := mblocks_of) (
    DR.cons (Δ1 := ([.fz (tInt K) (fun (s : mblocks_of_S) => s.1), .fz (tList (tTp [(tInt K), (tInt K)])) (fun (s : mblocks_of_S) => s.2.1)] : Ctx K mblocks_of_S)) (DS.conv (DS.expr (DX.ofC (fm := mcheck_items_fm K) (τ := (tNone K)) (DC.call ((mcheck_items_ok T).mono (by decide)) hr T.g7 T.F7.kp T.b7 (DA.cons (DX.var (i := 0) rfl) DA.nil) (.fz .nil) (.fz .nil) List.nodup_nil (by exact trivial)) rfl (fun _ => HEq.rfl)) (by exact trivial)) rfl (by exact rfl)) <|
    DR.cons (Δ1 := ([.fz (tInt K) (fun (s : mblocks_of_S) => s.1), .fz (tList (tTp [(tInt K), (tInt K)])) (fun (s : mblocks_of_S) => s.2.1)] : Ctx K mblocks_of_S)) (DS.conv (DS.expr (DX.ofC (fm := mcheck_selection_fm K) (τ := (tNone K)) (DC.call ((mcheck_selection_ok T).mono (by decide)) hr T.g10 T.F10.kp T.b10 (DA.cons (DX.var (i := 0) rfl) (DA.cons (DX.var (i := 1) rfl) DA.nil)) (.fz (.fz .nil)) (.fz (.fz .nil)) List.nodup_nil (by exact trivial)) rfl (fun _ => HEq.rfl)) (by exact trivial)) rfl (by exact rfl)) <|
    DR.retO (f := fun (s : mblocks_of_S) => (mblocks_of_c4 s)) (DO.ofC (fm := mblocks_in_fm K) (ω := (oList (tTp [(tInt K), (tInt K)]))) (DC.call ((mblocks_in_ok T).mono (by decide)) hr T.g13 T.F13.kp T.b13 (DA.cons (DX.ofL (DO.ofC (fm := mborders_in_fm K) (ω := (oList (tInt K))) (DC.call ((mborders_in_ok T).mono (by decide)) hr T.g11 T.F11.kp T.b11 (DA.cons (DX.var (i := 1) rfl) DA.nil) (.fz .nil) (.fz .nil) List.nodup_nil (by exact trivial)) rfl (fun _ => HEq.rfl))) DA.nil) (.fz .nil) (.fz .nil) List.nodup_nil (by exact trivial)) rfl (fun _ => HEq.rfl)) (OwnAll.all (by exact trivial)) (.fz (.fz .nil)) ⟨rfl, fun _ => HEq.rfl, fun _ => rfl⟩
    ) (by exact fun _ => (hide_eq _).symm) (by exact fun _ h => h)
theorem mcheck_list_ok (T : Tx K mg) : FnG P w K mg base CX0 5 T.a22 T.d22 ["items", "selection"] (SpOf (mcheck_list_fm K) mcheck_list_p mcheck_list) := by
  refine def_ok T.F22 sc22 rfl (by decide) fun cdv A outer s H E hr => ?_
  exact def_finN (Δ := ([.fz (tInt K) (fun (s : mcheck_list_S) => s.1), .fz (tList (tTp [(tInt K), (tInt K)])) (fun (s : mcheck_list_S) => s.2.1)] : Ctx K mcheck_list_S)) (p := mcheck_list_p) (fv := mcheck_list) (
    DN.cons (Δ1 := ([.fz (tInt K) (fun (s : mcheck_list_S) => s.1), .fz (tList (tTp [(tInt K), (tInt K)])) (fun (s : mcheck_list_S) => s.2.1)] : Ctx K mcheck_list_S)) (DS.conv (DS.expr (DX.ofC (fm := mcheck_items_fm K) (τ := (tNone K)) (DC.call ((mcheck_items_ok T).mono (by decide)) hr T.g7 T.F7.kp T.b7 (DA.cons (DX.var (i := 0) rfl) DA.nil) (.fz .nil) (.fz .nil) List.nodup_nil (by exact trivial)) rfl (fun _ => HEq.rfl)) (by exact trivial)) rfl (by exact rfl)) <|
    DN.cons (Δ1 := ([.fz (tInt K) (fun (s : mcheck_list_S) => s.1), .fz (tList (tTp [(tInt K), (tInt K)])) (fun (s : mcheck_list_S) => s.2.1)] : Ctx K mcheck_list_S)) (DS.conv (DS.expr (DX.ofC (fm := mcheck_selection_fm K) (τ := (tNone K)) (DC.call ((mcheck_selection_ok T).mono (by decide)) hr T.g10 T.F10.kp T.b10 (DA.cons (DX.var (i := 0) rfl) (DA.cons (DX.var (i := 1) rfl) DA.nil)) (.fz (.fz .nil)) (.fz (.fz .nil)) List.nodup_nil (by exact trivial)) rfl (fun _ => HEq.rfl)) (by exact trivial)) rfl (by exact rfl)) <|
    DN.fin rfl
    ) (.fz (.fz .nil)) ⟨rfl, fun _ => HEq.rfl, fun _ => rfl⟩ (by exact fun _ h => h)
theorem mblocks_with_ok (T : Tx K mg) : FnG P w K mg base CX0 2 T.a23 T.d23 ["selection"] (SpOf (mblocks_with_fm K) mblocks_with_p mblocks_with) := by
  refine def_ok T.F23 sc23 rfl (by decide) fun cdv A outer s H E hr => ?_
  exact def_fin (Δ := ([.fz (tList (tTp [(tInt K), (tInt K)])) (fun (s : mblocks_with_S) => s.1)] : Ctx K mblocks_with_S)) (p := mblocks_with_p) (fv := mblocks_with) (
    DR.retO (f := fun (s : mblocks_with_S) => (mblocks_with_c2 s)) (DO.ofC (fm := mblocks_in_fm K) (ω := (oList (tTp [(tInt K), (tInt K)]))) (DC.call ((mblocks_in_ok T).mono (by decide)) hr T.g13 T.F13.kp T.b13 (DA.cons (DX.ofL (DO.ofC (fm := mborders_in_fm K) (ω := (oList (tInt K))) (DC.call ((mborders_in_ok T).mono (by decide)) hr T.g11 T.F11.kp T.b11 (DA.cons (DX.var (i := 0) rfl) DA.nil) (.fz .nil) (.fz .nil) List.nodup_nil (by exact trivial)) rfl (fun _ => HEq.rfl))) DA.nil) (.fz .nil) (.fz .nil) List.nodup_nil (by exact trivial)) rfl (fun _ => HEq.rfl)) (OwnAll.all (by exact trivial)) (.fz .nil) ⟨rfl, fun _ => HEq.rfl, fun _ => rfl⟩
    ) (by exact fun _ => (hide_eq _).symm) (by exact fun _ h => h)
theorem mtokens_in_ok (T : Tx K mg) : FnG P w K mg base CX0 1 T.a24 T.d24 ["block", "place"] (SpOf (mtokens_in_fm K) mtokens_in_p mtokens_in) := by
  refine def_ok T.F24 sc24 rfl (by decide) fun cdv A outer s H E hr => ?_
  exact def_fin (Δ := ([.fz (tTp [(tInt K), (tInt K)]) (fun (s : mtokens_in_S) => s.1), .fz (tInt K) (fun (s : mtokens_in_S) => s.2.1), .dead, .dead, .dead, .dead, .dead, .dead] : Ctx K mtokens_in_S)) (p := mtokens_in_p) (fv := mtokens_in) (
    DR.cons (Δ1 := ([.fz (tTp [(tInt K), (tInt K)]) (fun (s : mtokens_in_S) => s.1), .fz (tInt K) (fun (s : mtokens_in_S) => s.2.1), .fz (tInt K) (fun (s : mtokens_in_S) => (mtokens_in_t1 s).1), .fz (tInt K) (fun (s : mtokens_in_S) => (mtokens_in_t1 s).2), .dead, .dead, .dead, .dead] : Ctx K mtokens_in_S)) (DS.conv (DS.asg (DX.conv (f' := fun (s : mtokens_in_S) => (mtokens_in_t1 s)) (DX.var (i := 0) rfl) rfl rfl (by exact rfl)) (DG.tup (DGs.cons (DG.name (i := 2) sc24.nd rfl (.inl rfl)) (DGs.one (DG.name (i := 3) sc24.nd rfl (.inl rfl))))) (by exact trivial) (by show ∀ j ∈ ([2, 3] : List Nat), j ∉ ([] : List Nat); decide)) rfl (by exact rfl)) <|
    DR.cons (Δ1 := ([.fz (tTp [(tInt K), (tInt K)]) (fun (s : mtokens_in_S) => s.1), .fz (tInt K) (fun (s : mtokens_in_S) => s.2.1), .fz (tInt K) (fun (s : mtokens_in_S) => (mtokens_in_t1 s).1), .fz (tInt K) (fun (s : mtokens_in_S) => (mtokens_in_t1 s).2), .fz (tOpt (tInt K)) (fun (s : mtokens_in_S) => (mtokens_in_v_single_2 s)), .dead, .dead, .dead] : Ctx K mtokens_in_S)) (DS.conv (DS.asg (DX.ite (DT.eq hr.rm dat_int (DX.mod (DX.sub (DX.var (i := 3) rfl) (DX.var (i := 2) rfl)) DX.int) DX.int (hn := n64 (m := 1) rfl)) (DX.pu (DX.someO nv_int (DX.add (DX.var (i := 2) rfl) (DX.mul DX.int (DX.var (i := 1) rfl)))) rfl rfl) (DX.pu DX.nonO rfl rfl)) (DG.name (i := 4) sc24.nd rfl (.inl rfl)) (by exact trivial) (by show ∀ j ∈ ([4] : List Nat), j ∉ ([] : List Nat); decide)) rfl (by exact rfl)) <|
    DR.cons (Δ1 := ([.fz (tTp [(tInt K), (tInt K)]) (fun (s : mtokens_in_S) => s.1), .fz (tInt K) (fun (s : mtokens_in_S) => s.2.1), .fz (tInt K) (fun (s : mtokens_in_S) => (mtokens_in_t1 s).1), .fz (tInt K) (fun (s : mtokens_in_S) => (mtokens_in_t1 s).2), .fz (tOpt (tInt K)) (fun (s : mtokens_in_S) => (mtokens_in_v_single_2 s)), .ow (oList (tSeq (tInt K))) (fun (s : mtokens_in_S) => (mtokens_in_v_found_3 s)), .dead, .dead] : Ctx K mtokens_in_S)) (DS.conv (DS.setO (DO.lst (τ := (tSeq (tInt K))) DL.nil (hl := fun _ => (by decide : 0 ≤ sizeLine))) (by exact trivial) sc24.nd (i := 5) rfl (.inl rfl) (by show 5 ∉ ([] : List Nat); decide)) rfl (by exact rfl)) <|
    DR.cons (Δ1 := ([.fz (tTp [(tInt K), (tInt K)]) (fun (s : mtokens_in_S) => s.1), .fz (tInt K) (fun (s : mtokens_in_S) => s.2.1), .fz (tInt K) (fun (s : mtokens_in_S) => (mtokens_in_t1 s).1), .fz (tInt K) (fun (s : mtokens_in_S) => (mtokens_in_t1 s).2), .fz (tOpt (tInt K)) (fun (s : mtokens_in_S) => (mtokens_in_v_single_2 s)), .ow (oList (tSeq (tInt K))) (fun (s : mtokens_in_S) => (mtokens_in_v_found_3 s)), .fz (tInt K) (fun (s : mtokens_in_S) => (mtokens_in_t1 s).1), .dead] : Ctx K mtokens_in_S)) (DS.conv (DS.asg (DX.var (i := 2) rfl) (DG.name (i := 6) sc24.nd rfl (.inl rfl)) (by exact trivial) (by show ∀ j ∈ ([6] : List Nat), j ∉ ([] : List Nat); decide)) rfl (by exact rfl)) <|
    DR.cons (Δ1 := ([.fz (tTp [(tInt K), (tInt K)]) (fun (s : mtokens_in_S) => s.1), .fz (tInt K) (fun (s : mtokens_in_S) => s.2.1), .fz (tInt K) (fun (s : mtokens_in_S) => (mtokens_in_t1 s).1), .fz (tInt K) (fun (s : mtokens_in_S) => (mtokens_in_t1 s).2), .fz (tOpt (tInt K)) (fun (s : mtokens_in_S) => (mtokens_in_v_single_2 s)), .ow (oList (tSeq (tInt K))) (fun (s : mtokens_in_S) => (mtokens_in_L4 s).1), .fz (tInt K) (fun (s : mtokens_in_S) => (mtokens_in_L4 s).2), .dead] : Ctx K mtokens_in_S)) (DS.conv (DS.whileH (S := mtokens_in_S) (M := mtokens_in_L4M) (init := fun s => mtokens_in_L4i s) (step := fun s => mtokens_in_L4s s) (h := fun s => mtokens_in_L4h s) (Δl := ([.fz (tTp [(tInt K), (tInt K)]) (fun (s : (mtokens_in_S × mtokens_in_L4M)) => s.1.1), .fz (tInt K) (fun (s : (mtokens_in_S × mtokens_in_L4M)) => s.1.2.1), .fz (tInt K) (fun (s : (mtokens_in_S × mtokens_in_L4M)) => (mtokens_in_t1 s.1).1), .fz (tInt K) (fun (s : (mtokens_in_S × mtokens_in_L4M)) => (mtokens_in_t1 s.1).2), .fz (tOpt (tInt K)) (fun (s : (mtokens_in_S × mtokens_in_L4M)) => (mtokens_in_v_single_2 s.1)), .ow (oList (tSeq (tInt K))) (fun (s : (mtokens_in_S × mtokens_in_L4M)) => s.2.1), .fz (tInt K) (fun (s : (mtokens_in_S × mtokens_in_L4M)) => s.2.2), .dead] : Ctx K (mtokens_in_S × mtokens_in_L4M))) (Δe := ([.fz (tTp [(tInt K), (tInt K)]) (fun (s : mtokens_in_L4T) => s.1.1.1), .fz (tInt K) (fun (s : mtokens_in_L4T) => s.1.1.2.1), .fz (tInt K) (fun (s : mtokens_in_L4T) => (mtokens_in_t1 s.1.1).1), .fz (tInt K) (fun (s : mtokens_in_L4T) => (mtokens_in_t1 s.1.1).2), .fz (tOpt (tInt K)) (fun (s : mtokens_in_L4T) => (mtokens_in_v_single_2 s.1.1)), .ow (oList (tSeq (tInt K))) (fun (s : mtokens_in_L4T) => (mtokens_in_v_found_6 s)), .fz (tInt K) (fun (s : mtokens_in_L4T) => (mtokens_in_v_border_7 s)), .fz (tSeq (tInt K)) (fun (s : mtokens_in_L4T) => (mtokens_in_v_token_5 s))] : Ctx K mtokens_in_L4T)) (.keep (.keep (.keep (.keep (.keep (.ow (ω := (oList (tSeq (tInt K)))) (fun (m : mtokens_in_L4M) => m.1) (fun _ => by rfl) (.fz (τ := (tInt K)) (fun (m : mtokens_in_L4M) => m.2) (fun _ => by rfl) (.dead .nil)))))))) (DT.conv (DT.le (DX.var (i := 6) rfl) (DX.var (i := 3) rfl)) rfl rfl (by exact rfl)) (
      DN.cons (Δ1 := ([.fz (tTp [(tInt K), (tInt K)]) (fun (s : mtokens_in_L4T) => s.1.1.1), .fz (tInt K) (fun (s : mtokens_in_L4T) => s.1.1.2.1), .fz (tInt K) (fun (s : mtokens_in_L4T) => (mtokens_in_t1 s.1.1).1), .fz (tInt K) (fun (s : mtokens_in_L4T) => (mtokens_in_t1 s.1.1).2), .fz (tOpt (tInt K)) (fun (s : mtokens_in_L4T) => (mtokens_in_v_single_2 s.1.1)), .ow (oList (tSeq (tInt K))) (fun (s : mtokens_in_L4T) => s.1.2.1), .fz (tInt K) (fun (s : mtokens_in_L4T) => s.1.2.2), .fz (tSeq (tInt K)) (fun (s : mtokens_in_L4T) => (mtokens_in_v_token_5 s))] : Ctx K mtokens_in_L4T)) (DS.conv (DS.asg (DX.ite (DT.eq hr.rm (dat_opt dat_int nn_int) (DX.someO nv_int (DX.var (i := 6) rfl)) (DX.var (i := 4) rfl) (hn := n64 (m := 1) rfl)) (DX.pu (DX.seq1 (DX.tup (DTs.one (DX.var (i := 6) rfl)) (hl := (by decide : 1 ≤ sizeLine)))) rfl rfl) (DX.pu (DX.seq2 (DX.tup (DTs.cons (DX.var (i := 6) rfl) (DTs.one (DX.add (DX.var (i := 6) rfl) DX.int))) (hl := (by decide : 2 ≤ sizeLine)))) rfl rfl)) (DG.name (i := 7) sc24.nd rfl (.inl rfl)) (by exact trivial) (by show ∀ j ∈ ([7] : List Nat), j ∉ ([] : List Nat); decide)) rfl (by exact rfl)) <|
      DN.cons (Δ1 := ([.fz (tTp [(tInt K), (tInt K)]) (fun (s : mtokens_in_L4T) => s.1.1.1), .fz (tInt K) (fun (s : mtokens_in_L4T) => s.1.1.2.1), .fz (tInt K) (fun (s : mtokens_in_L4T) => (mtokens_in_t1 s.1.1).1), .fz (tInt K) (fun (s : mtokens_in_L4T) => (mtokens_in_t1 s.1.1).2), .fz (tOpt (tInt K)) (fun (s : mtokens_in_L4T) => (mtokens_in_v_single_2 s.1.1)), .ow (oList (tSeq (tInt K))) (fun (s : mtokens_in_L4T) => (mtokens_in_v_found_6 s)), .fz (tInt K) (fun (s : mtokens_in_L4T) => s.1.2.2), .fz (tSeq (tInt K)) (fun (s : mtokens_in_L4T) => (mtokens_in_v_token_5 s))] : Ctx K mtokens_in_L4T)) (DS.conv (DS.expr (DX.append (i := 5) (DX.var (i := 7) rfl) rfl rfl) (by exact ⟨⟨_, _, rfl⟩, trivial⟩)) rfl (by exact rfl)) <|
      DN.cons (Δ1 := ([.fz (tTp [(tInt K), (tInt K)]) (fun (s : mtokens_in_L4T) => s.1.1.1), .fz (tInt K) (fun (s : mtokens_in_L4T) => s.1.1.2.1), .fz (tInt K) (fun (s : mtokens_in_L4T) => (mtokens_in_t1 s.1.1).1), .fz (tInt K) (fun (s : mtokens_in_L4T) => (mtokens_in_t1 s.1.1).2), .fz (tOpt (tInt K)) (fun (s : mtokens_in_L4T) => (mtokens_in_v_single_2 s.1.1)), .ow (oList (tSeq (tInt K))) (fun (s : mtokens_in_L4T) => (mtokens_in_v_found_6 s)), .fz (tInt K) (fun (s : mtokens_in_L4T) => (mtokens_in_v_border_7 s)), .fz (tSeq (tInt K)) (fun (s : mtokens_in_L4T) => (mtokens_in_v_token_5 s))] : Ctx K mtokens_in_L4T)) (DS.conv (DS.augA (DX.pu (DX.lenSq T.n_len (DX.var (i := 7) rfl)) rfl rfl) (i := 6) rfl sc24.nd rfl (.inl rfl) (by show 6 ∉ ([] : List Nat); decide)) rfl (by exact rfl)) <|
      DN.fin rfl
    ) (.keep (sl := .fz (tTp [(tInt K), (tInt K)]) (fun (s : mtokens_in_S) => s.1)) (.keep (sl := .fz (tInt K) (fun (s : mtokens_in_S) => s.2.1)) (.keep (sl := .fz (tInt K) (fun (s : mtokens_in_S) => (mtokens_in_t1 s).1)) (.keep (sl := .fz (tInt K) (fun (s : mtokens_in_S) => (mtokens_in_t1 s).2)) (.keep (sl := .fz (tOpt (tInt K)) (fun (s : mtokens_in_S) => (mtokens_in_v_single_2 s))) (.ow (ω := (oList (tSeq (tInt K)))) (pr := fun (m : mtokens_in_L4M) => m.1) (fun _ => by rfl) (.fz (τ := (tInt K)) (pr := fun (m : mtokens_in_L4M) => m.2) (fun _ => by rfl) (.dead .nil))))))))) rfl rfl) <|
    DR.retN (f := fun (s : mtokens_in_S) => (mtokens_in_L4 s).1) (i := 5) rfl (by show 5 ∉ ([] : List Nat); decide) (.fz (.fz .nil)) ⟨rfl, fun _ => HEq.rfl, fun _ => rfl⟩
    ) (by exact fun _ => (hide_eq _).symm) (by exact fun _ h => h)
theorem mcover_with_ok (T : Tx K mg) : FnG P w K mg base CX0 2 T.a25 T.d25 ["blocks", "places"] (SpOf (mcover_with_fm K) mcover_with_p mcover_with) := by
  refine def_ok T.F25 sc25 rfl (by decide) fun cdv A outer s H E hr => ?_
  exact def_fin (Δ := ([.fz (tList (tTp [(tInt K), (tInt K)])) (fun (s : mcover_with_S) => s.1), .fz (tList (tInt K)) (fun (s : mcover_with_S) => s.2.1), .dead, .dead, .dead] : Ctx K mcover_with_S)) (p := mcover_with_p) (fv := mcover_with) (
    DR.retO (f := fun (s : mcover_with_S) => (lc2V (List.zip s.1 s.2.1) (fun x => (mcover_with_c1 (s, x))) (fun x y => ((s, x), y).2))) (DO.lc2 (own := [("block", 2), ("place", 3), ("token", 4)]) (vs1 := [4]) (Δb := ([.fz (tList (tTp [(tInt K), (tInt K)])) (fun (s : (mcover_with_S × ((Int × Int) × Int))) => s.1.1), .fz (tList (tInt K)) (fun (s : (mcover_with_S × ((Int × Int) × Int))) => s.1.2.1), .fz (tTp [(tInt K), (tInt K)]) (fun (s : (mcover_with_S × ((Int × Int) × Int))) => s.2.1), .fz (tInt K) (fun (s : (mcover_with_S × ((Int × Int) × Int))) => s.2.2), .dead] : Ctx K (mcover_with_S × ((Int × Int) × Int)))) (Δc := ([.fz (tList (tTp [(tInt K), (tInt K)])) (fun (s : ((mcover_with_S × ((Int × Int) × Int)) × (List Int))) => s.1.1.1), .fz (tList (tInt K)) (fun (s : ((mcover_with_S × ((Int × Int) × Int)) × (List Int))) => s.1.1.2.1), .fz (tTp [(tInt K), (tInt K)]) (fun (s : ((mcover_with_S × ((Int × Int) × Int)) × (List Int))) => s.1.2.1), .fz (tInt K) (fun (s : ((mcover_with_S × ((Int × Int) × Int)) × (List Int))) => s.1.2.2), .fz (tSeq (tInt K)) (fun (s : ((mcover_with_S × ((Int × Int) × Int)) × (List Int))) => s.2)] : Ctx K ((mcover_with_S × ((Int × Int) × Int)) × (List Int)))) sc25.nd (DI.zip ll_list ll_list T.n_zip (DX.var (i := 0) rfl) (DX.var (i := 1) rfl)) (blkOk_by (N := ["blocks", "places", "block", "place", "token"]) (sc := defScope (topS 25)) (own := [("block", 2), ("place", 3), ("token", 4)]) (by decide +kernel)) (by decide) (fun _ _ _ _ _ => (DG.tup (DGs.cons (DG.name (i := 2) sc25.nd rfl (.inl rfl)) (DGs.one (DG.name (i := 3) sc25.nd rfl (.inl rfl)))))) (fun _ _ _ _ _ => (DI.list ll_list (DX.ofL (DO.ofC (fm := mtokens_in_fm K) (ω := (oList (tSeq (tInt K)))) (DC.call ((mtokens_in_ok T).mono (by decide)) hr T.g24 T.F24.kp T.b24 (DA.cons (DX.var (i := 2) rfl) (DA.cons (DX.var (i := 3) rfl) DA.nil)) (.fz (.fz .nil)) (.fz (.fz .nil)) List.nodup_nil (by exact trivial)) rfl (fun _ => HEq.rfl))))) (fun _ _ _ _ _ => (DG.name (i := 4) sc25.nd rfl (.inl rfl))) (fun _ _ _ _ _ => (DX.pu (DX.var (i := 4) rfl) rfl rfl)) (by decide) (by decide)) (OwnAll.all (by exact trivial)) (.fz (.fz .nil)) ⟨rfl, fun _ => HEq.rfl, fun _ => rfl⟩
    ) (by exact fun _ => (hide_eq _).symm) (by exact fun _ h => h)
theorem mbest_cover_ok (T : Tx K mg) : FnG P w K mg base CX0 3 T.a26 T.d26 ["selection"] (SpOf (mbest_cover_fm K) mbest_cover_p mbest_cover) := by
  refine def_ok T.F26 sc26 rfl (by decide) fun cdv A outer s H E hr => ?_
  exact def_fin (Δ := ([.fz (tList (tTp [(tInt K), (tInt K)])) (fun (s : mbest_cover_S) => s.1), .dead] : Ctx K mbest_cover_S)) (p := mbest_cover_p) (fv := mbest_cover) (
    DR.cons (Δ1 := ([.fz (tList (tTp [(tInt K), (tInt K)])) (fun (s : mbest_cover_S) => s.1), .fz (tList (tTp [(tInt K), (tInt K)])) (fun (s : mbest_cover_S) => (mbest_cover_c1 s))] : Ctx K mbest_cover_S)) (DS.conv (DS.asg (DX.ofL (DO.ofC (fm := mblocks_with_fm K) (ω := (oList (tTp [(tInt K), (tInt K)]))) (DC.call ((mblocks_with_ok T).mono (by decide)) hr T.g23 T.F23.kp T.b23 (DA.cons (DX.var (i := 0) rfl) DA.nil) (.fz .nil) (.fz .nil) List.nodup_nil (by exact trivial)) rfl (fun _ => HEq.rfl))) (DG.name (i := 1) sc26.nd rfl (.inl rfl)) (by exact trivial) (by show ∀ j ∈ ([1] : List Nat), j ∉ ([] : List Nat); decide)) rfl (by exact rfl)) <|
    DR.retO (f := fun (s : mbest_cover_S) => (mbest_cover_c2 s)) (DO.ofC (fm := mcover_with_fm K) (ω := (oList (tSeq (tInt K)))) (DC.call ((mcover_with_ok T).mono (by decide)) hr T.g25 T.F25.kp T.b25 (DA.cons (DX.var (i := 1) rfl) (DA.cons (DX.ofL (DO.rep (DX.ofL (DO.lst (τ := (tInt K)) (DL.cons DX.int DL.nil) (hl := fun _ => (by decide : 1 ≤ sizeLine)))) (DX.len ll_list T.n_len (DX.var (i := 1) rfl)))) DA.nil)) (.fz (.fz .nil)) (.fz (.fz .nil)) List.nodup_nil (by exact trivial)) rfl (fun _ => HEq.rfl)) (OwnAll.all (by exact trivial)) (.fz .nil) ⟨rfl, fun _ => HEq.rfl, fun _ => rfl⟩
    ) (by exact fun _ => (hide_eq _).symm) (by exact fun _ h => h)
theorem mclicks_of_ok (T : Tx K mg) : FnG P w K mg base CX0 1 T.a27 T.d27 ["cover"] (SpOf (mclicks_of_fm K) mclicks_of_p mclicks_of) := by
  refine def_ok T.F27 sc27 rfl (by decide) fun cdv A outer s H E hr => ?_
  exact def_fin (Δ := ([.fz (tList (tSeq (tInt K))) (fun (s : mclicks_of_S) => s.1), .dead, .dead, .dead, .dead, .dead] : Ctx K mclicks_of_S)) (p := mclicks_of_p) (fv := mclicks_of) (
    DR.cons (Δ1 := ([.fz (tList (tSeq (tInt K))) (fun (s : mclicks_of_S) => s.1), .dead, .fz (tList (tInt K)) (fun (s : mclicks_of_S) => (mclicks_of_v_singles_1 s)), .dead, .dead, .dead] : Ctx K mclicks_of_S)) (DS.conv (DS.setSF (DOS.lc (own := [("token", 1)]) (Δb := ([.fz (tList (tSeq (tInt K))) (fun (s : (mclicks_of_S × (List Int))) => s.1.1), .fz (tSeq (tInt K)) (fun (s : (mclicks_of_S × (List Int))) => s.2), .dead, .dead, .dead, .dead] : Ctx K (mclicks_of_S × (List Int)))) sc27.nd (DI.list ll_list (DX.var (i := 0) rfl)) (blkOk_by (N := ["cover", "token", "singles", "found", "first", "after"]) (sc := defScope (topS 27)) (own := [("token", 1)]) (by decide +kernel)) (fun _ _ _ _ _ => (DG.name (i := 1) sc27.nd rfl (.inl rfl))) (fun _ _ _ _ _ => (DTs'.one (DT.pu (DT.eq hr.rm dat_int (DX.lenSq T.n_len (DX.var (i := 1) rfl)) DX.int (hn := n64 (m := 1) rfl)) rfl rfl))) (fun _ _ _ _ _ => (DX.pu (DX.ixSq (τ := (tInt K)) (0 : Int) (DX.var (i := 1) rfl) DX.int) rfl rfl)) (by decide)) (by exact trivial) sc27.nd (i := 2) rfl rfl (by show 2 ∉ ([] : List Nat); decide)) rfl (by exact rfl)) <|
    DR.cons (Δ1 := ([.fz (tList (tSeq (tInt K))) (fun (s : mclicks_of_S) => s.1), .dead, .fz (tList (tInt K)) (fun (s : mclicks_of_S) => (mclicks_of_v_singles_1 s)), .ow (oList (tTp [(tStr K), (tInt K)])) (fun (s : mclicks_of_S) => (mclicks_of_v_found_2 s)), .dead, .dead] : Ctx K mclicks_of_S)) (DS.conv (DS.setO (DO.lst (τ := (tTp [(tStr K), (tInt K)])) DL.nil (hl := fun _ => (by decide : 0 ≤ sizeLine))) (by exact trivial) sc27.nd (i := 3) rfl (.inl rfl) (by show 3 ∉ ([] : List Nat); decide)) rfl (by exact rfl)) <|
    DR.cons (Δ1 := ([.fz (tList (tSeq (tInt K))) (fun (s : mclicks_of_S) => s.1), .dead, .fz (tList (tInt K)) (fun (s : mclicks_of_S) => (mclicks_of_v_singles_1 s)), .ow (oList (tTp [(tStr K), (tInt K)])) (fun (s : mclicks_of_S) => (mclicks_of_L3 s)), .dead, .dead] : Ctx K mclicks_of_S)) (DS.conv (DS.forH (S := mclicks_of_S) (M := mclicks_of_L3M) (τ := (tTp [(tInt K), (tInt K)])) (init := fun s => mclicks_of_L3i s) (step := fun s => mclicks_of_L3s s) (fx := fun s => mclicks_of_L3x s) (Δ1 := ([.fz (tList (tSeq (tInt K))) (fun (s : mclicks_of_S) => s.1), .dead, .fz (tList (tInt K)) (fun (s : mclicks_of_S) => (mclicks_of_v_singles_1 s)), .ow (oList (tTp [(tStr K), (tInt K)])) (fun (s : mclicks_of_S) => (mclicks_of_v_found_2 s)), .dead, .dead] : Ctx K mclicks_of_S)) (Δl := ([.fz (tList (tSeq (tInt K))) (fun (s : (mclicks_of_S × mclicks_of_L3M)) => s.1.1), .dead, .fz (tList (tInt K)) (fun (s : (mclicks_of_S × mclicks_of_L3M)) => (mclicks_of_v_singles_1 s.1)), .ow (oList (tTp [(tStr K), (tInt K)])) (fun (s : (mclicks_of_S × mclicks_of_L3M)) => s.2), .dead, .dead] : Ctx K (mclicks_of_S × mclicks_of_L3M))) (Δb := ([.fz (tList (tSeq (tInt K))) (fun (s : mclicks_of_L3T) => s.1.1.1), .dead, .fz (tList (tInt K)) (fun (s : mclicks_of_L3T) => (mclicks_of_v_singles_1 s.1.1)), .ow (oList (tTp [(tStr K), (tInt K)])) (fun (s : mclicks_of_L3T) => s.1.2), .fz (tInt K) (fun (s : mclicks_of_L3T) => s.2.1), .fz (tInt K) (fun (s : mclicks_of_L3T) => s.2.2)] : Ctx K mclicks_of_L3T)) (Δe := ([.fz (tList (tSeq (tInt K))) (fun (s : mclicks_of_L3T) => s.1.1.1), .dead, .fz (tList (tInt K)) (fun (s : mclicks_of_L3T) => (mclicks_of_v_singles_1 s.1.1)), .ow (oList (tTp [(tStr K), (tInt K)])) (fun (s : mclicks_of_L3T) => (mclicks_of_v_found_4 s)), .fz (tInt K) (fun (s : mclicks_of_L3T) => s.2.1), .fz (tInt K) (fun (s : mclicks_of_L3T) => s.2.2)] : Ctx K mclicks_of_L3T)) (DI.conv (DI.zip ll_list ll_list T.n_zip (DX.ofL (DO.slS ll_list (DX.var (i := 2) rfl) DPo.none DPo.none (DPo.some DX.int) (fun _ => by decide))) (DX.ofL (DO.slS ll_list (DX.var (i := 2) rfl) (DPo.some DX.int) DPo.none (DPo.some DX.int) (fun _ => by decide)))) rfl rfl (by exact rfl)) (by exact trivial) (.keep (.dead (.keep (.ow (ω := (oList (tTp [(tStr K), (tInt K)]))) (fun (m : mclicks_of_L3M) => m) (fun _ => by rfl) (.dead (.dead .nil)))))) (DG.tup (DGs.cons (DG.name (i := 4) sc27.nd rfl (.inl rfl)) (DGs.one (DG.name (i := 5) sc27.nd rfl (.inl rfl))))) (by show ∀ j ∈ ([4, 5] : List Nat), j ∉ ([] : List Nat); decide) (
      DN.cons (Δ1 := ([.fz (tList (tSeq (tInt K))) (fun (s : mclicks_of_L3T) => s.1.1.1), .dead, .fz (tList (tInt K)) (fun (s : mclicks_of_L3T) => (mclicks_of_v_singles_1 s.1.1)), .ow (oList (tTp [(tStr K), (tInt K)])) (fun (s : mclicks_of_L3T) => (mclicks_of_v_found_4 s)), .fz (tInt K) (fun (s : mclicks_of_L3T) => s.2.1), .fz (tInt K) (fun (s : mclicks_of_L3T) => s.2.2)] : Ctx K mclicks_of_L3T)) (DS.conv (DS.expr (DX.extend (i := 3) (DX.ofL (DO.lst (τ := (tTp [(tStr K), (tInt K)])) (DL.cons (DX.tup (DTs.cons (DX.str (h := ok_str _)) (DTs.one (DX.var (i := 4) rfl))) (hl := (by decide : 2 ≤ sizeLine))) (DL.cons (DX.tup (DTs.cons (DX.str (h := ok_str _)) (DTs.one (DX.sub (DX.var (i := 5) rfl) DX.int))) (hl := (by decide : 2 ≤ sizeLine))) DL.nil)) (hl := fun _ => (by decide : 2 ≤ sizeLine)))) rfl rfl) (by exact ⟨⟨_, _, rfl⟩, trivial⟩)) rfl (by exact rfl)) <|
      DN.fin rfl
    ) (.keep (sl := .fz (tList (tSeq (tInt K))) (fun (s : mclicks_of_S) => s.1)) (.dead (.keep (sl := .fz (tList (tInt K)) (fun (s : mclicks_of_S) => (mclicks_of_v_singles_1 s))) (.ow (ω := (oList (tTp [(tStr K), (tInt K)]))) (pr := fun (m : mclicks_of_L3M) => m) (fun _ => by rfl) (.dead (.dead .nil))))))) rfl rfl) <|
    DR.retO (f := fun (s : mclicks_of_S) => ((mclicks_of_L3 s) ++ (lcV s.1 (fun x => ((dfInt).eq (((s, x).2).length : Int) (2 : Int))) (fun x => (("click" : Str), (ixI (0 : Int) (s, x).2 (0 : Int))))))) (DO.borrowE 3 rfl (DO.cat ll_list ll_list (DX.var (i := 3) rfl) (DX.ofL (DO.lc (own := [("token", 1)]) (Δb := ([.fz (tList (tSeq (tInt K))) (fun (s : (mclicks_of_S × (List Int))) => s.1.1), .fz (tSeq (tInt K)) (fun (s : (mclicks_of_S × (List Int))) => s.2), .fz (tList (tInt K)) (fun (s : (mclicks_of_S × (List Int))) => (mclicks_of_v_singles_1 s.1)), .fz (tList (tTp [(tStr K), (tInt K)])) (fun (s : (mclicks_of_S × (List Int))) => (mclicks_of_L3 s.1)), .dead, .dead] : Ctx K (mclicks_of_S × (List Int)))) sc27.nd (DI.list ll_list (DX.var (i := 0) rfl)) (blkOk_by (N := ["cover", "token", "singles", "found", "first", "after"]) (sc := defScope (topS 27)) (own := [("token", 1)]) (by decide +kernel)) (fun _ _ _ _ _ => (DG.name (i := 1) sc27.nd rfl (.inl rfl))) (fun _ _ _ _ _ => (DTs'.one (DT.pu (DT.eq hr.rm dat_int (DX.lenSq T.n_len (DX.var (i := 1) rfl)) DX.int (hn := n64 (m := 1) rfl)) rfl rfl))) (fun _ _ _ _ _ => (DX.pu (DX.tup (DTs.cons (DX.str (h := ok_str _)) (DTs.one (DX.ixSq (τ := (tInt K)) (0 : Int) (DX.var (i := 1) rfl) DX.int))) (hl := (by decide : 2 ≤ sizeLine))) rfl rfl)) (by decide)))) (lfo_list (lf_tup (lf_cons lf_str (lf_cons lf_int lf_nil)))) (by show 3 ∉ ([] : List Nat); decide) (by exact trivial) (by exact trivial)) (OwnAll.all (by exact trivial)) (.fz .nil) ⟨rfl, fun _ => HEq.rfl, fun _ => rfl⟩
    ) (by exact fun _ => (hide_eq _).symm) (by exact fun _ h => h)
theorem mshortest_clicks_ok (T : Tx K mg) : FnG P w K mg base CX0 6 T.a28 T.d28 ["items", "selection"] (SpOf (mshortest_clicks_fm K) mshortest_clicks_p mshortest_clicks) := by
  refine def_ok T.F28 sc28 rfl (by decide) fun cdv A outer s H E hr => ?_
  exact def_fin (Δ := ([.fz (tInt K) (fun (s : mshortest_clicks_S) => s.1), .fz (tList (tTp [(tInt K), (tInt K)])) (fun (s : mshortest_clicks_S) => s.2.1)] : Ctx K mshortest_clicks_S)) (p := mshortest_clicks_p) (fv := mshortest_clicks) (
    DR.cons (Δ1 := ([.fz (tInt K) (fun (s : mshortest_clicks_S) => s.1), .fz (tList (tTp [(tInt K), (tInt K)])) (fun (s : mshortest_clicks_S) => s.2.1)] : Ctx K mshortest_clicks_S)) (DS.conv (DS.expr (DX.ofC (fm := mcheck_list_fm K) (τ := (tNone K)) (DC.call ((mcheck_list_ok T).mono (by decide)) hr T.g22 T.F22.kp T.b22 (DA.cons (DX.var (i := 0) rfl) (DA.cons (DX.var (i := 1) rfl) DA.nil)) (.fz (.fz .nil)) (.fz (.fz .nil)) List.nodup_nil (by exact trivial)) rfl (fun _ => HEq.rfl)) (by exact trivial)) rfl (by exact rfl)) <|
    DR.retO (f := fun (s : mshortest_clicks_S) => (mshortest_clicks_c3 s)) (DO.ofC (fm := mclicks_of_fm K) (ω := (oList (tTp [(tStr K), (tInt K)]))) (DC.call ((mclicks_of_ok T).mono (by decide)) hr T.g27 T.F27.kp T.b27 (DA.cons (DX.ofL (DO.ofC (fm := mbest_cover_fm K) (ω := (oList (tSeq (tInt K)))) (DC.call ((mbest_cover_ok T).mono (by decide)) hr T.g26 T.F26.kp T.b26 (DA.cons (DX.var (i := 1) rfl) DA.nil) (.fz .nil) (.fz .nil) List.nodup_nil (by exact trivial)) rfl (fun _ => HEq.rfl))) DA.nil) (.fz .nil) (.fz .nil) List.nodup_nil (by exact trivial)) rfl (fun _ => HEq.rfl)) (OwnAll.all (by exact trivial)) (.fz (.fz .nil)) ⟨rfl, fun _ => HEq.rfl, fun _ => rfl⟩
    ) (by exact fun _ => (hide_eq _).symm) (by exact fun _ h => h)
theorem mfrom_borders_ok (T : Tx K mg) : FnG P w K mg base CX0 1 T.a12 T.d12 ["borders"] (SpOf (mfrom_borders_fm K) mfrom_borders_p mfrom_borders) := by
  refine def_ok T.F12 sc12 rfl (by decide) fun cdv A outer s H E hr => ?_
  exact def_fin (Δ := ([.fz (tList (tInt K)) (fun (s : mfrom_borders_S) => s.1), .dead, .dead] : Ctx K mfrom_borders_S)) (p := mfrom_borders_p) (fv := mfrom_borders) (
    DR.retO (f := fun (s : mfrom_borders_S) => (lcV (List.zip (stepL s.1 none none (some (2 : Int))) (stepL s.1 (some (1 : Int)) none (some (2 : Int)))) (fun x => true) (fun x => ((s, x).2.1, ((s, x).2.2 - (1 : Int)))))) (DO.lc (own := [("first", 1), ("end", 2)]) (Δb := ([.fz (tList (tInt K)) (fun (s : (mfrom_borders_S × (Int × Int))) => s.1.1), .fz (tInt K) (fun (s : (mfrom_borders_S × (Int × Int))) => s.2.1), .fz (tInt K) (fun (s : (mfrom_borders_S × (Int × Int))) => s.2.2)] : Ctx K (mfrom_borders_S × (Int × Int)))) sc12.nd (DI.zip ll_list ll_list T.n_zip (DX.ofL (DO.slS ll_list (DX.var (i := 0) rfl) DPo.none DPo.none (DPo.some DX.int) (fun _ => by decide))) (DX.ofL (DO.slS ll_list (DX.var (i := 0) rfl) (DPo.some DX.int) DPo.none (DPo.some DX.int) (fun _ => by decide)))) (blkOk_by (N := ["borders", "first", "end"]) (sc := defScope (topS 12)) (own := [("first", 1), ("end", 2)]) (by decide +kernel)) (fun _ _ _ _ _ => (DG.tup (DGs.cons (DG.name (i := 1) sc12.nd rfl (.inl rfl)) (DGs.one (DG.name (i := 2) sc12.nd rfl (.inl rfl)))))) (fun _ _ _ _ _ => DTs'.nil) (fun _ _ _ _ _ => (DX.pu (DX.tup (DTs.cons (DX.var (i := 1) rfl) (DTs.one (DX.sub (DX.var (i := 2) rfl) DX.int))) (hl := (by decide : 2 ≤ sizeLine))) rfl rfl)) (by decide)) (OwnAll.all (by exact trivial)) (.fz .nil) ⟨rfl, fun _ => HEq.rfl, fun _ => rfl⟩
    ) (by exact fun _ => (hide_eq _).symm) (by exact fun _ h => h)
theorem mdifference_ok (T : Tx K mg) : FnG P w K mg base CX0 5 T.a16 T.d16 ["items", "selection", "other"] (SpOf (mdifference_fm K) mdifference_p mdifference) := by
  refine def_ok T.F16 sc16 rfl (by decide) fun cdv A outer s H E hr => ?_
  exact def_fin (Δ := ([.fz (tInt K) (fun (s : mdifference_S) => s.1), .fz (tList (tTp [(tInt K), (tInt K)])) (fun (s : mdifference_S) => s.2.1), .fz (tList (tTp [(tInt K), (tInt K)])) (fun (s : mdifference_S) => s.2.2.1), .dead, .dead] : Ctx K mdifference_S)) (p := mdifference_p) (fv := mdifference) (
    DR.cons (Δ1 := ([.fz (tInt K) (fun (s : mdifference_S) => s.1), .fz (tList (tTp [(tInt K), (tInt K)])) (fun (s : mdifference_S) => s.2.1), .fz (tList (tTp [(tInt K), (tInt K)])) (fun (s : mdifference_S) => s.2.2.1), .dead, .dead] : Ctx K mdifference_S)) (DS.conv (DS.expr (DX.ofC (fm := mcheck_items_fm K) (τ := (tNone K)) (DC.call ((mcheck_items_ok T).mono (by decide)) hr T.g7 T.F7.kp T.b7 (DA.cons (DX.var (i := 0) rfl) DA.nil) (.fz .nil) (.fz .nil) List.nodup_nil (by exact trivial)) rfl (fun _ => HEq.rfl)) (by exact trivial)) rfl (by exact rfl)) <|
    DR.cons (Δ1 := ([.fz (tInt K) (fun (s : mdifference_S) => s.1), .fz (tList (tTp [(tInt K), (tInt K)])) (fun (s : mdifference_S) => s.2.1), .fz (tList (tTp [(tInt K), (tInt K)])) (fun (s : mdifference_S) => s.2.2.1), .dead, .dead] : Ctx K mdifference_S)) (DS.conv (DS.expr (DX.ofC (fm := mcheck_selection_fm K) (τ := (tNone K)) (DC.call ((mcheck_selection_ok T).mono (by decide)) hr T.g10 T.F10.kp T.b10 (DA.cons (DX.var (i := 0) rfl) (DA.cons (DX.var (i := 1) rfl) DA.nil)) (.fz (.fz .nil)) (.fz (.fz .nil)) List.nodup_nil (by exact trivial)) rfl (fun _ => HEq.rfl)) (by exact trivial)) rfl (by exact rfl)) <|
    DR.cons (Δ1 := ([.fz (tInt K) (fun (s : mdifference_S) => s.1), .fz (tList (tTp [(tInt K), (tInt K)])) (fun (s : mdifference_S) => s.2.1), .fz (tList (tTp [(tInt K), (tInt K)])) (fun (s : mdifference_S) => s.2.2.1), .dead, .dead] : Ctx K mdifference_S)) (DS.conv (DS.expr (DX.ofC (fm := mcheck_selection_fm K) (τ := (tNone K)) (DC.call ((mcheck_selection_ok T).mono (by decide)) hr T.g10 T.F10.kp T.b10 (DA.cons (DX.var (i := 0) rfl) (DA.cons (DX.var (i := 2) rfl) DA.nil)) (.fz (.fz .nil)) (.fz (.fz .nil)) List.nodup_nil (by exact trivial)) rfl (fun _ => HEq.rfl)) (by exact trivial)) rfl (by exact rfl)) <|
    DR.cons (Δ1 := ([.fz (tInt K) (fun (s : mdifference_S) => s.1), .fz (tList (tTp [(tInt K), (tInt K)])) (fun (s : mdifference_S) => s.2.1), .fz (tList (tTp [(tInt K), (tInt K)])) (fun (s : mdifference_S) => s.2.2.1), .fz (tList (tInt K)) (fun (s : mdifference_S) => (mdifference_v_borders_6 s)), .dead] : Ctx K mdifference_S)) (DS.conv (DS.asg (DX.ofL (DO.sorted ll_list T.n_sorted (DX.ofL (DO.cat ll_list ll_list (DX.ofL (DO.ofC (fm := mborders_in_fm K) (ω := (oList (tInt K))) (DC.call ((mborders_in_ok T).mono (by decide)) hr T.g11 T.F11.kp T.b11 (DA.cons (DX.var (i := 1) rfl) DA.nil) (.fz .nil) (.fz .nil) List.nodup_nil (by exact trivial)) rfl (fun _ => HEq.rfl))) (DX.ofL (DO.ofC (fm := mborders_in_fm K) (ω := (oList (tInt K))) (DC.call ((mborders_in_ok T).mono (by decide)) hr T.g11 T.F11.kp T.b11 (DA.cons (DX.var (i := 2) rfl) DA.nil) (.fz .nil) (.fz .nil) List.nodup_nil (by exact trivial)) rfl (fun _ => HEq.rfl))))))) (DG.name (i := 3) sc16.nd rfl (.inr rfl)) (by exact trivial) (by show ∀ j ∈ ([3] : List Nat), j ∉ ([] : List Nat); decide)) rfl (by exact rfl)) <|
    DR.retO (f := fun (s : mdifference_S) => (mdifference_c7 s)) (DO.ofC (fm := mfrom_borders_fm K) (ω := (oList (tTp [(tInt K), (tInt K)]))) (DC.call ((mfrom_borders_ok T).mono (by decide)) hr T.g12 T.F12.kp T.b12 (DA.cons (DX.ofL (DO.lc (own := [("border", 4)]) (Δb := ([.fz (tInt K) (fun (s : (mdifference_S × Int)) => s.1.1), .fz (tList (tTp [(tInt K), (tInt K)])) (fun (s : (mdifference_S × Int)) => s.1.2.1), .fz (tList (tTp [(tInt K), (tInt K)])) (fun (s : (mdifference_S × Int)) => s.1.2.2.1), .fz (tList (tInt K)) (fun (s : (mdifference_S × Int)) => (mdifference_v_borders_6 s.1)), .fz (tInt K) (fun (s : (mdifference_S × Int)) => s.2)] : Ctx K (mdifference_S × Int))) sc16.nd (DI.list ll_list (DX.var (i := 3) rfl)) (blkOk_by (N := ["items", "selection", "other", "borders", "border"]) (sc := defScope (topS 16)) (own := [("border", 4)]) (by decide +kernel)) (fun _ _ _ _ _ => (DG.name (i := 4) sc16.nd rfl (.inl rfl))) (fun _ _ _ _ _ => (DTs'.one (DT.pu (DT.eq hr.rm dat_int (DX.count (i := 3) ll_list rfl (DX.var (i := 4) rfl)) DX.int (hn := n64 (m := 1) rfl)) rfl rfl))) (fun _ _ _ _ _ => (DX.pu (DX.var (i := 4) rfl) rfl rfl)) (by decide))) DA.nil) (.fz .nil) (.fz .nil) List.nodup_nil (by exact trivial)) rfl (fun _ => HEq.rfl)) (OwnAll.all (by exact trivial)) (.fz (.fz (.fz .nil))) ⟨rfl, fun _ => HEq.rfl, fun _ => rfl⟩
    ) (by exact fun _ => (hide_eq _).symm) (by exact fun _ h => h)
theorem m_law_right_ok (T : Tx K mg) : FnG P w K mg base CX0 7 T.a35 T.d35 ["_law_script", "_law_bag_here"] (SpOf (m_law_right_fm K) m_law_right_p m_law_right) := by
  refine def_ok T.F35 sc35 rfl (by decide) fun cdv A outer s H E hr => ?_
  exact def_fin (Δ := ([.fz (tScr K) (fun (s : m_law_right_S) => s.1), .ow (oList (tInt K)) (fun (s : m_law_right_S) => s.2.1), .dead, .dead, .dead, .dead, .dead, .dead, .dead, .dead, .dead, .dead, .dead, .dead, .dead] : Ctx K m_law_right_S)) (p := m_law_right_p) (fv := m_law_right) (
    DR.cons (Δ1 := ([.fz (tScr K) (fun (s : m_law_right_S) => s.1), .ow (oList (tInt K)) (fun (s : m_law_right_S) => (m_law_right_c1 s).1), .fz (tInt K) (fun (s : m_law_right_S) => (m_law_right_c1 s).2), .dead, .dead, .dead, .dead, .dead, .dead, .dead, .dead, .dead, .dead, .dead, .dead] : Ctx K m_law_right_S)) (DS.conv (DS.asg (DX.ofC (fm := m_law_size_fm K) (τ := (tInt K)) (DC.call ((m_law_size_ok T).mono (by decide)) hr T.g34 T.F34.kp T.b34 (DA.cons (DX.var (i := 0) rfl) (DA.mu (j := 1) rfl DA.nil)) (.fz (.mu rfl .nil)) (.fz (.mu .nil)) nd1 (by exact ⟨⟨_, _, rfl⟩, trivial⟩)) rfl (fun _ => HEq.rfl)) (DG.name (i := 2) sc35.nd rfl (.inr rfl)) (by exact ⟨⟨_, _, rfl⟩, trivial⟩) (by show ∀ j ∈ ([2] : List Nat), j ∉ ([1] : List Nat); decide)) rfl (by exact rfl)) <|
    DR.cons (Δ1 := ([.fz (tScr K) (fun (s : m_law_right_S) => s.1), .ow (oList (tInt K)) (fun (s : m_law_right_S) => (m_law_right_c1 s).1), .fz (tInt K) (fun (s : m_law_right_S) => (m_law_right_v_size_here_2 s)), .dead, .dead, .dead, .dead, .dead, .dead, .dead, .dead, .dead, .dead, .dead, .dead] : Ctx K m_law_right_S)) (DS.conv (DS.asg (DX.min2 T.n_min (DX.var (i := 2) rfl) (DX.fdiv (DX.pow DX.int DX.int) DX.int)) (DG.name (i := 2) sc35.nd rfl (.inr rfl)) (by exact trivial) (by show ∀ j ∈ ([2] : List Nat), j ∉ ([1] : List Nat); decide)) rfl (by exact rfl)) <|
    DR.cons (Δ1 := ([.fz (tScr K) (fun (s : m_law_right_S) => s.1), .ow (oList (tInt K)) (fun (s : m_law_right_S) => (m_law_right_v_bag_here_4 s)), .fz (tInt K) (fun (s : m_law_right_S) => (m_law_right_v_size_here_2 s)), .fz (tInt K) (fun (s : m_law_right_S) => (m_law_right_v_most_5 s)), .dead, .dead, .dead, .dead, .dead, .dead, .dead, .dead, .dead, .dead, .dead] : Ctx K m_law_right_S)) (DS.conv (DS.asg (DX.iteE 1 (ω := (oList (tInt K))) (f1 := fun (s : m_law_right_S) => (m_law_right_c1 s).1) (f2 := fun (s : m_law_right_S) => (m_law_right_c3 s).1) (DT.eq hr.rm dat_scr (DX.var (i := 0) rfl) (DX.scrL (DX.ofL (DO.lst (τ := (tInt K)) DL.nil (hl := fun _ => (by decide : 0 ≤ sizeLine))))) (hn := n64 (m := 2) rfl)) rfl DX.int (DX.ix (ll_list (τ := (tInt K))) (0 : Int) (DX.ofL (DO.lst (τ := (tInt K)) (DL.cons DX.int (DL.cons DX.int DL.nil)) (hl := fun _ => (by decide : 2 ≤ sizeLine)))) (DX.ofC (fm := m_law_draw_fm K) (τ := (tInt K)) (DC.call ((m_law_draw_ok T).mono (by decide)) hr T.g31 T.F31.kp T.b31 (DA.mu (j := 1) rfl (DA.cons DX.int DA.nil)) (.mu rfl (.fz .nil)) (.mu (.fz .nil)) nd1 (by exact ⟨⟨_, _, rfl⟩, trivial⟩)) rfl (fun _ => HEq.rfl))) rfl rfl (fun k h => by have h2 : k ∈ ([] : List Nat) := h; simpa using h2) (fun k h => by have h2 : k ∈ ([1] : List Nat) := h; simpa using h2)) (DG.name (i := 3) sc35.nd rfl (.inl rfl)) (by exact ⟨⟨_, _, rfl⟩, trivial⟩) (by show ∀ j ∈ ([3] : List Nat), j ∉ ([1] : List Nat); decide)) rfl (by exact rfl)) <|
    DR.cons (Δ1 := ([.fz (tScr K) (fun (s : m_law_right_S) => s.1), .ow (oList (tInt K)) (fun (s : m_law_right_S) => (m_law_right_c7 s).1), .fz (tInt K) (fun (s : m_law_right_S) => (m_law_right_v_size_here_2 s)), .fz (tInt K) (fun (s : m_law_right_S) => (m_law_right_v_most_5 s)), .fz (tList (tTp [(tInt K), (tInt K)])) (fun (s : m_law_right_S) => (m_law_right_c6 s).2), .fz (tList (tTp [(tInt K), (tInt K)])) (fun (s : m_law_right_S) => (m_law_right_c7 s).2), .dead, .dead, .dead, .dead, .dead, .dead, .dead, .dead, .dead] : Ctx K m_law_right_S)) (DS.conv (DS.par (DV.fz (DX.ofL (DO.ofC (fm := m_law_runs_fm K) (ω := (oList (tTp [(tInt K), (tInt K)]))) (DC.call ((m_law_runs_ok T).mono (by decide)) hr T.g33 T.F33.kp T.b33 (DA.mu (j := 1) rfl (DA.cons (DX.var (i := 2) rfl) (DA.cons (DX.var (i := 3) rfl) DA.nil))) (.mu rfl (.fz (.fz .nil))) (.mu (.fz (.fz .nil))) nd1 (by exact ⟨⟨_, _, rfl⟩, trivial⟩)) rfl (fun _ => HEq.rfl)))) (DV.fz (DX.ofL (DO.ofC (fm := m_law_runs_fm K) (ω := (oList (tTp [(tInt K), (tInt K)]))) (DC.call ((m_law_runs_ok T).mono (by decide)) hr T.g33 T.F33.kp T.b33 (DA.mu (j := 1) rfl (DA.cons (DX.var (i := 2) rfl) (DA.cons (DX.var (i := 3) rfl) DA.nil))) (.mu rfl (.fz (.fz .nil))) (.mu (.fz (.fz .nil))) nd1 (by exact ⟨⟨_, _, rfl⟩, trivial⟩)) rfl (fun _ => HEq.rfl)))) (by exact ⟨⟨_, _, rfl⟩, ⟨⟨_, _, rfl⟩, trivial⟩⟩) sc35.nd (i := 4) (j := 5) rfl rfl (by decide) rfl rfl (by show 4 ∉ ([1] : List Nat); decide) (by show 5 ∉ ([1] : List Nat); decide)) rfl (by exact rfl)) <|
    DR.cons (Δ1 := ([.fz (tScr K) (fun (s : m_law_right_S) => s.1), .ow (oList (tInt K)) (fun (s : m_law_right_S) => (m_law_right_c7 s).1), .fz (tInt K) (fun (s : m_law_right_S) => (m_law_right_v_size_here_2 s)), .fz (tInt K) (fun (s : m_law_right_S) => (m_law_right_v_most_5 s)), .fz (tList (tTp [(tInt K), (tInt K)])) (fun (s : m_law_right_S) => (m_law_right_c6 s).2), .fz (tList (tTp [(tInt K), (tInt K)])) (fun (s : m_law_right_S) => (m_law_right_c7 s).2), .fz (tList (tInt K)) (fun (s : m_law_right_S) => (m_law_right_v_prices_10 s)), .dead, .dead, .dead, .dead, .dead, .dead, .dead, .dead] : Ctx K m_law_right_S)) (DS.conv (DS.asg (DX.ofL (DO.lst (τ := (tInt K)) (DL.cons (DX.ofC (fm := mcost_fm K) (τ := (tInt K)) (DC.call ((mcost_ok T).mono (by decide)) hr T.g20 T.F20.kp T.b20 (DA.cons (DX.var (i := 2) rfl) (DA.cons (DX.var (i := 4) rfl) DA.nil)) (.fz (.fz .nil)) (.fz (.fz .nil)) List.nodup_nil (by exact trivial)) rfl (fun _ => HEq.rfl)) (DL.cons (DX.ofC (fm := mcost_fm K) (τ := (tInt K)) (DC.call ((mcost_ok T).mono (by decide)) hr T.g20 T.F20.kp T.b20 (DA.cons (DX.var (i := 2) rfl) (DA.cons (DX.var (i := 5) rfl) DA.nil)) (.fz (.fz .nil)) (.fz (.fz .nil)) List.nodup_nil (by exact trivial)) rfl (fun _ => HEq.rfl)) DL.nil)) (hl := fun _ => (by decide : 2 ≤ sizeLine)))) (DG.name (i := 6) sc35.nd rfl (.inl rfl)) (by exact trivial) (by show ∀ j ∈ ([6] : List Nat), j ∉ ([1] : List Nat); decide)) rfl (by exact rfl)) <|
    DR.consM (Δ1 := ([.fz (tScr K) (fun (s : m_law_right_S) => s.1), .ow (oList (tInt K)) (fun (s : m_law_right_S) => (m_law_right_c7 s).1), .fz (tInt K) (fun (s : m_law_right_S) => (m_law_right_v_size_here_2 s)), .fz (tInt K) (fun (s : m_law_right_S) => (m_law_right_v_most_5 s)), .fz (tList (tTp [(tInt K), (tInt K)])) (fun (s : m_law_right_S) => (m_law_right_c6 s).2), .fz (tList (tTp [(tInt K), (tInt K)])) (fun (s : m_law_right_S) => (m_law_right_c7 s).2), .fz (tList (tInt K)) (fun (s : m_law_right_S) => (m_law_right_v_prices_10 s)), .dead, .dead, .dead, .dead, .dead, .dead, .dead, .dead] : Ctx K m_law_right_S)) (r := fun s => m_law_right_L11R s) (DSm.conv (DSm.forH (r := fun s => m_law_right_L11r s) (S := m_law_right_S) (M := m_law_right_L11M) (τ := (tTp [(tList (tTp [(tInt K), (tInt K)])), (tInt K)])) (init := fun s => m_law_right_L11i s) (step := fun s => m_law_right_L11s s) (fx := fun s => m_law_right_L11x s) (Δ1 := ([.fz (tScr K) (fun (s : m_law_right_S) => s.1), .ow (oList (tInt K)) (fun (s : m_law_right_S) => (m_law_right_c7 s).1), .fz (tInt K) (fun (s : m_law_right_S) => (m_law_right_v_size_here_2 s)), .fz (tInt K) (fun (s : m_law_right_S) => (m_law_right_v_most_5 s)), .fz (tList (tTp [(tInt K), (tInt K)])) (fun (s : m_law_right_S) => (m_law_right_c6 s).2), .fz (tList (tTp [(tInt K), (tInt K)])) (fun (s : m_law_right_S) => (m_law_right_c7 s).2), .fz (tList (tInt K)) (fun (s : m_law_right_S) => (m_law_right_v_prices_10 s)), .dead, .dead, .dead, .dead, .dead, .dead, .dead, .dead] : Ctx K m_law_right_S)) (Δl := ([.fz (tScr K) (fun (s : (m_law_right_S × m_law_right_L11M)) => s.1.1), .ow (oList (tInt K)) (fun (s : (m_law_right_S × m_law_right_L11M)) => (m_law_right_c7 s.1).1), .fz (tInt K) (fun (s : (m_law_right_S × m_law_right_L11M)) => (m_law_right_v_size_here_2 s.1)), .fz (tInt K) (fun (s : (m_law_right_S × m_law_right_L11M)) => (m_law_right_v_most_5 s.1)), .fz (tList (tTp [(tInt K), (tInt K)])) (fun (s : (m_law_right_S × m_law_right_L11M)) => (m_law_right_c6 s.1).2), .fz (tList (tTp [(tInt K), (tInt K)])) (fun (s : (m_law_right_S × m_law_right_L11M)) => (m_law_right_c7 s.1).2), .fz (tList (tInt K)) (fun (s : (m_law_right_S × m_law_right_L11M)) => (m_law_right_v_prices_10 s.1)), .dead, .dead, .dead, .dead, .dead, .dead, .dead, .dead] : Ctx K (m_law_right_S × m_law_right_L11M))) (Δb := ([.fz (tScr K) (fun (s : m_law_right_L11T) => s.1.1.1), .ow (oList (tInt K)) (fun (s : m_law_right_L11T) => (m_law_right_c7 s.1.1).1), .fz (tInt K) (fun (s : m_law_right_L11T) => (m_law_right_v_size_here_2 s.1.1)), .fz (tInt K) (fun (s : m_law_right_L11T) => (m_law_right_v_most_5 s.1.1)), .fz (tList (tTp [(tInt K), (tInt K)])) (fun (s : m_law_right_L11T) => (m_law_right_c6 s.1.1).2), .fz (tList (tTp [(tInt K), (tInt K)])) (fun (s : m_law_right_L11T) => (m_law_right_c7 s.1.1).2), .fz (tList (tInt K)) (fun (s : m_law_right_L11T) => (m_law_right_v_prices_10 s.1.1)), .fz (tList (tTp [(tInt K), (tInt K)])) (fun (s : m_law_right_L11T) => s.2.1), .fz (tInt K) (fun (s : m_law_right_L11T) => s.2.2), .dead, .dead, .dead, .dead, .dead, .dead] : Ctx K m_law_right_L11T)) (Δe := ([.fz (tScr K) (fun (s : m_law_right_L11T) => s.1.1.1), .ow (oList (tInt K)) (fun (s : m_law_right_L11T) => (m_law_right_c7 s.1.1).1), .fz (tInt K) (fun (s : m_law_right_L11T) => (m_law_right_v_size_here_2 s.1.1)), .fz (tInt K) (fun (s : m_law_right_L11T) => (m_law_right_v_most_5 s.1.1)), .fz (tList (tTp [(tInt K), (tInt K)])) (fun (s : m_law_right_L11T) => (m_law_right_c6 s.1.1).2), .fz (tList (tTp [(tInt K), (tInt K)])) (fun (s : m_law_right_L11T) => (m_law_right_c7 s.1.1).2), .fz (tList (tInt K)) (fun (s : m_law_right_L11T) => (m_law_right_v_prices_10 s.1.1)), .fz (tList (tTp [(tInt K), (tInt K)])) (fun (s : m_law_right_L11T) => s.2.1), .fz (tInt K) (fun (s : m_law_right_L11T) => s.2.2), .fz (tList (tInt K)) (fun (s : m_law_right_L11T) => (m_law_right_c12 s)), .fz (tList (tTp [(tInt K), (tInt K)])) (fun (s : m_law_right_L11T) => (m_law_right_c13 s)), .dead, .dead, .dead, .dead] : Ctx K m_law_right_L11T)) (DI.conv (DI.zip ll_list ll_list T.n_zip (DX.ofL (DO.lst (τ := (tList (tTp [(tInt K), (tInt K)]))) (DL.cons (DX.var (i := 4) rfl) (DL.cons (DX.var (i := 5) rfl) DL.nil)) (hl := fun _ => (by decide : 2 ≤ sizeLine)))) (DX.var (i := 6) rfl)) rfl rfl (by exact rfl)) (by exact trivial) (.keep (.keep (.keep (.keep (.keep (.keep (.keep (.dead (.dead (.dead (.dead (.dead (.dead (.dead (.dead .nil))))))))))))))) (DG.tup (DGs.cons (DG.name (i := 7) sc35.nd rfl (.inl rfl)) (DGs.one (DG.name (i := 8) sc35.nd rfl (.inl rfl))))) (by show ∀ j ∈ ([7, 8] : List Nat), j ∉ ([1] : List Nat); decide) (
      DM.cons (Δ1 := ([.fz (tScr K) (fun (s : m_law_right_L11T) => s.1.1.1), .ow (oList (tInt K)) (fun (s : m_law_right_L11T) => (m_law_right_c7 s.1.1).1), .fz (tInt K) (fun (s : m_law_right_L11T) => (m_law_right_v_size_here_2 s.1.1)), .fz (tInt K) (fun (s : m_law_right_L11T) => (m_law_right_v_most_5 s.1.1)), .fz (tList (tTp [(tInt K), (tInt K)])) (fun (s : m_law_right_L11T) => (m_law_right_c6 s.1.1).2), .fz (tList (tTp [(tInt K), (tInt K)])) (fun (s : m_law_right_L11T) => (m_law_right_c7 s.1.1).2), .fz (tList (tInt K)) (fun (s : m_law_right_L11T) => (m_law_right_v_prices_10 s.1.1)), .fz (tList (tTp [(tInt K), (tInt K)])) (fun (s : m_law_right_L11T) => s.2.1), .fz (tInt K) (fun (s : m_law_right_L11T) => s.2.2), .fz (tList (tInt K)) (fun (s : m_law_right_L11T) => (m_law_right_c12 s)), .fz (tList (tTp [(tInt K), (tInt K)])) (fun (s : m_law_right_L11T) => (m_law_right_c13 s)), .dead, .dead, .dead, .dead] : Ctx K m_law_right_L11T)) (DS.conv (DS.par (DV.fz (DX.ofL (DO.ofC (fm := mborders_of_fm K) (ω := (oList (tInt K))) (DC.call ((mborders_of_ok T).mono (by decide)) hr T.g14 T.F14.kp T.b14 (DA.cons (DX.var (i := 2) rfl) (DA.cons (DX.var (i := 7) rfl) DA.nil)) (.fz (.fz .nil)) (.fz (.fz .nil)) List.nodup_nil (by exact trivial)) rfl (fun _ => HEq.rfl)))) (DV.fz (DX.ofL (DO.ofC (fm := mblocks_of_fm K) (ω := (oList (tTp [(tInt K), (tInt K)]))) (DC.call ((mblocks_of_ok T).mono (by decide)) hr T.g15 T.F15.kp T.b15 (DA.cons (DX.var (i := 2) rfl) (DA.cons (DX.var (i := 7) rfl) DA.nil)) (.fz (.fz .nil)) (.fz (.fz .nil)) List.nodup_nil (by exact trivial)) rfl (fun _ => HEq.rfl)))) (by exact trivial) sc35.nd (i := 9) (j := 10) rfl rfl (by decide) rfl rfl (by show 9 ∉ ([1] : List Nat); decide) (by show 10 ∉ ([1] : List Nat); decide)) rfl (by exact rfl)) <|
      DM.consM (Δ1 := ([.fz (tScr K) (fun (s : m_law_right_L11T) => s.1.1.1), .ow (oList (tInt K)) (fun (s : m_law_right_L11T) => (m_law_right_c7 s.1.1).1), .fz (tInt K) (fun (s : m_law_right_L11T) => (m_law_right_v_size_here_2 s.1.1)), .fz (tInt K) (fun (s : m_law_right_L11T) => (m_law_right_v_most_5 s.1.1)), .fz (tList (tTp [(tInt K), (tInt K)])) (fun (s : m_law_right_L11T) => (m_law_right_c6 s.1.1).2), .fz (tList (tTp [(tInt K), (tInt K)])) (fun (s : m_law_right_L11T) => (m_law_right_c7 s.1.1).2), .fz (tList (tInt K)) (fun (s : m_law_right_L11T) => (m_law_right_v_prices_10 s.1.1)), .fz (tList (tTp [(tInt K), (tInt K)])) (fun (s : m_law_right_L11T) => s.2.1), .fz (tInt K) (fun (s : m_law_right_L11T) => s.2.2), .fz (tList (tInt K)) (fun (s : m_law_right_L11T) => (m_law_right_c12 s)), .fz (tList (tTp [(tInt K), (tInt K)])) (fun (s : m_law_right_L11T) => (m_law_right_c13 s)), .dead, .dead, .dead, .dead] : Ctx K m_law_right_L11T)) (r := fun (s : m_law_right_L11T) => (if (m_law_right_h14 s) = true then (some ((m_law_right_c7 s.1.1).1, false)) else none)) (DSm.conv (DSm.ite (h := fun (s : m_law_right_L11T) => (m_law_right_h14 s)) (Δ1 := ([.fz (tScr K) (fun (s : m_law_right_L11T) => s.1.1.1), .ow (oList (tInt K)) (fun (s : m_law_right_L11T) => (m_law_right_c7 s.1.1).1), .fz (tInt K) (fun (s : m_law_right_L11T) => (m_law_right_v_size_here_2 s.1.1)), .fz (tInt K) (fun (s : m_law_right_L11T) => (m_law_right_v_most_5 s.1.1)), .fz (tList (tTp [(tInt K), (tInt K)])) (fun (s : m_law_right_L11T) => (m_law_right_c6 s.1.1).2), .fz (tList (tTp [(tInt K), (tInt K)])) (fun (s : m_law_right_L11T) => (m_law_right_c7 s.1.1).2), .fz (tList (tInt K)) (fun (s : m_law_right_L11T) => (m_law_right_v_prices_10 s.1.1)), .fz (tList (tTp [(tInt K), (tInt K)])) (fun (s : m_law_right_L11T) => s.2.1), .fz (tInt K) (fun (s : m_law_right_L11T) => s.2.2), .fz (tList (tInt K)) (fun (s : m_law_right_L11T) => (m_law_right_c12 s)), .fz (tList (tTp [(tInt K), (tInt K)])) (fun (s : m_law_right_L11T) => (m_law_right_c13 s)), .dead, .dead, .dead, .dead] : Ctx K m_law_right_L11T)) (Δa := ([.fz (tScr K) (fun (s : m_law_right_L11T) => s.1.1.1), .ow (oList (tInt K)) (fun (s : m_law_right_L11T) => (m_law_right_c7 s.1.1).1), .fz (tInt K) (fun (s : m_law_right_L11T) => (m_law_right_v_size_here_2 s.1.1)), .fz (tInt K) (fun (s : m_law_right_L11T) => (m_law_right_v_most_5 s.1.1)), .fz (tList (tTp [(tInt K), (tInt K)])) (fun (s : m_law_right_L11T) => (m_law_right_c6 s.1.1).2), .fz (tList (tTp [(tInt K), (tInt K)])) (fun (s : m_law_right_L11T) => (m_law_right_c7 s.1.1).2), .fz (tList (tInt K)) (fun (s : m_law_right_L11T) => (m_law_right_v_prices_10 s.1.1)), .fz (tList (tTp [(tInt K), (tInt K)])) (fun (s : m_law_right_L11T) => s.2.1), .fz (tInt K) (fun (s : m_law_right_L11T) => s.2.2), .fz (tList (tInt K)) (fun (s : m_law_right_L11T) => (m_law_right_c12 s)), .fz (tList (tTp [(tInt K), (tInt K)])) (fun (s : m_law_right_L11T) => (m_law_right_c13 s)), .dead, .dead, .dead, .dead] : Ctx K m_law_right_L11T)) (Δb := ([.fz (tScr K) (fun (s : m_law_right_L11T) => s.1.1.1), .ow (oList (tInt K)) (fun (s : m_law_right_L11T) => (m_law_right_c7 s.1.1).1), .fz (tInt K) (fun (s : m_law_right_L11T) => (m_law_right_v_size_here_2 s.1.1)), .fz (tInt K) (fun (s : m_law_right_L11T) => (m_law_right_v_most_5 s.1.1)), .fz (tList (tTp [(tInt K), (tInt K)])) (fun (s : m_law_right_L11T) => (m_law_right_c6 s.1.1).2), .fz (tList (tTp [(tInt K), (tInt K)])) (fun (s : m_law_right_L11T) => (m_law_right_c7 s.1.1).2), .fz (tList (tInt K)) (fun (s : m_law_right_L11T) => (m_law_right_v_prices_10 s.1.1)), .fz (tList (tTp [(tInt K), (tInt K)])) (fun (s : m_law_right_L11T) => s.2.1), .fz (tInt K) (fun (s : m_law_right_L11T) => s.2.2), .fz (tList (tInt K)) (fun (s : m_law_right_L11T) => (m_law_right_c12 s)), .fz (tList (tTp [(tInt K), (tInt K)])) (fun (s : m_law_right_L11T) => (m_law_right_c13 s)), .dead, .dead, .dead, .dead] : Ctx K m_law_right_L11T)) (DT.conv (DW.t (DW.or (DT.not (DT.chain ch_le ch_le (DX.len ll_list T.n_len (DX.var (i := 9) rfl)) (DX.mul DX.int (DX.var (i := 8) rfl)) (DX.pu (DX.mul DX.int (DX.len ll_list T.n_len (DX.var (i := 9) rfl))) rfl rfl))) (DW.pu (DW.or1 (DT.gt (DX.len ll_list T.n_len (DX.var (i := 10) rfl)) (DX.var (i := 8) rfl))) rfl rfl))) rfl rfl (by exact rfl)) (by exact trivial) (
        DM.ofR <|
        DR.ret (f := fun (s : m_law_right_L11T) => ((m_law_right_c7 s.1.1).1, false)) DX.fls (OwnAll.all (by exact trivial)) (.fz (.mu rfl .nil)) ⟨rfl, fun _ => HEq.rfl, fun _ => rfl⟩
      ) (
        DM.ofN <|
        DN.fin rfl
      ) (.same (.same (.same (.same (.same (.same (.same (.same (.same (.same (.same (.same (.same (.same (.same .nil)))))))))))))))) rfl rfl (by exact rfl)) <|
      DM.consM (Δ1 := ([.fz (tScr K) (fun (s : m_law_right_L11T) => s.1.1.1), .ow (oList (tInt K)) (fun (s : m_law_right_L11T) => (m_law_right_c7 s.1.1).1), .fz (tInt K) (fun (s : m_law_right_L11T) => (m_law_right_v_size_here_2 s.1.1)), .fz (tInt K) (fun (s : m_law_right_L11T) => (m_law_right_v_most_5 s.1.1)), .fz (tList (tTp [(tInt K), (tInt K)])) (fun (s : m_law_right_L11T) => (m_law_right_c6 s.1.1).2), .fz (tList (tTp [(tInt K), (tInt K)])) (fun (s : m_law_right_L11T) => (m_law_right_c7 s.1.1).2), .fz (tList (tInt K)) (fun (s : m_law_right_L11T) => (m_law_right_v_prices_10 s.1.1)), .fz (tList (tTp [(tInt K), (tInt K)])) (fun (s : m_law_right_L11T) => s.2.1), .fz (tInt K) (fun (s : m_law_right_L11T) => s.2.2), .fz (tList (tInt K)) (fun (s : m_law_right_L11T) => (m_law_right_c12 s)), .fz (tList (tTp [(tInt K), (tInt K)])) (fun (s : m_law_right_L11T) => (m_law_right_c13 s)), .dead, .dead, .dead, .dead] : Ctx K m_law_right_L11T)) (r := fun (s : m_law_right_L11T) => (if (m_law_right_h16 s) = true then (some ((m_law_right_c7 s.1.1).1, false)) else none)) (DSm.conv (DSm.ite (h := fun (s : m_law_right_L11T) => (m_law_right_h16 s)) (Δ1 := ([.fz (tScr K) (fun (s : m_law_right_L11T) => s.1.1.1), .ow (oList (tInt K)) (fun (s : m_law_right_L11T) => (m_law_right_c7 s.1.1).1), .fz (tInt K) (fun (s : m_law_right_L11T) => (m_law_right_v_size_here_2 s.1.1)), .fz (tInt K) (fun (s : m_law_right_L11T) => (m_law_right_v_most_5 s.1.1)), .fz (tList (tTp [(tInt K), (tInt K)])) (fun (s : m_law_right_L11T) => (m_law_right_c6 s.1.1).2), .fz (tList (tTp [(tInt K), (tInt K)])) (fun (s : m_law_right_L11T) => (m_law_right_c7 s.1.1).2), .fz (tList (tInt K)) (fun (s : m_law_right_L11T) => (m_law_right_v_prices_10 s.1.1)), .fz (tList (tTp [(tInt K), (tInt K)])) (fun (s : m_law_right_L11T) => s.2.1), .fz (tInt K) (fun (s : m_law_right_L11T) => s.2.2), .fz (tList (tInt K)) (fun (s : m_law_right_L11T) => (m_law_right_c12 s)), .fz (tList (tTp [(tInt K), (tInt K)])) (fun (s : m_law_right_L11T) => (m_law_right_c13 s)), .dead, .dead, .dead, .dead] : Ctx K m_law_right_L11T)) (Δa := ([.fz (tScr K) (fun (s : m_law_right_L11T) => s.1.1.1), .ow (oList (tInt K)) (fun (s : m_law_right_L11T) => (m_law_right_c7 s.1.1).1), .fz (tInt K) (fun (s : m_law_right_L11T) => (m_law_right_v_size_here_2 s.1.1)), .fz (tInt K) (fun (s : m_law_right_L11T) => (m_law_right_v_most_5 s.1.1)), .fz (tList (tTp [(tInt K), (tInt K)])) (fun (s : m_law_right_L11T) => (m_law_right_c6 s.1.1).2), .fz (tList (tTp [(tInt K), (tInt K)])) (fun (s : m_law_right_L11T) => (m_law_right_c7 s.1.1).2), .fz (tList (tInt K)) (fun (s : m_law_right_L11T) => (m_law_right_v_prices_10 s.1.1)), .fz (tList (tTp [(tInt K), (tInt K)])) (fun (s : m_law_right_L11T) => s.2.1), .fz (tInt K) (fun (s : m_law_right_L11T) => s.2.2), .fz (tList (tInt K)) (fun (s : m_law_right_L11T) => (m_law_right_c12 s)), .fz (tList (tTp [(tInt K), (tInt K)])) (fun (s : m_law_right_L11T) => (m_law_right_c13 s)), .dead, .dead, .dead, .dead] : Ctx K m_law_right_L11T)) (Δb := ([.fz (tScr K) (fun (s : m_law_right_L11T) => s.1.1.1), .ow (oList (tInt K)) (fun (s : m_law_right_L11T) => (m_law_right_c7 s.1.1).1), .fz (tInt K) (fun (s : m_law_right_L11T) => (m_law_right_v_size_here_2 s.1.1)), .fz (tInt K) (fun (s : m_law_right_L11T) => (m_law_right_v_most_5 s.1.1)), .fz (tList (tTp [(tInt K), (tInt K)])) (fun (s : m_law_right_L11T) => (m_law_right_c6 s.1.1).2), .fz (tList (tTp [(tInt K), (tInt K)])) (fun (s : m_law_right_L11T) => (m_law_right_c7 s.1.1).2), .fz (tList (tInt K)) (fun (s : m_law_right_L11T) => (m_law_right_v_prices_10 s.1.1)), .fz (tList (tTp [(tInt K), (tInt K)])) (fun (s : m_law_right_L11T) => s.2.1), .fz (tInt K) (fun (s : m_law_right_L11T) => s.2.2), .fz (tList (tInt K)) (fun (s : m_law_right_L11T) => (m_law_right_c12 s)), .fz (tList (tTp [(tInt K), (tInt K)])) (fun (s : m_law_right_L11T) => (m_law_right_c13 s)), .dead, .dead, .dead, .dead] : Ctx K m_law_right_L11T)) (DT.conv (DT.ne hr.rm dat_int (DX.len ll_list T.n_len (DX.ofL (DO.ofC (fm := mshortest_clicks_fm K) (ω := (oList (tTp [(tStr K), (tInt K)]))) (DC.call ((mshortest_clicks_ok T).mono (by decide)) hr T.g28 T.F28.kp T.b28 (DA.cons (DX.var (i := 2) rfl) (DA.cons (DX.var (i := 7) rfl) DA.nil)) (.fz (.fz .nil)) (.fz (.fz .nil)) List.nodup_nil (by exact trivial)) rfl (fun _ => HEq.rfl)))) (DX.var (i := 8) rfl) (hn := n64 (m := 1) rfl)) rfl rfl (by exact rfl)) (by exact trivial) (
        DM.ofR <|
        DR.ret (f := fun (s : m_law_right_L11T) => ((m_law_right_c7 s.1.1).1, false)) DX.fls (OwnAll.all (by exact trivial)) (.fz (.mu rfl .nil)) ⟨rfl, fun _ => HEq.rfl, fun _ => rfl⟩
      ) (
        DM.ofN <|
        DN.fin rfl
      ) (.same (.same (.same (.same (.same (.same (.same (.same (.same (.same (.same (.same (.same (.same (.same .nil)))))))))))))))) rfl rfl (by exact rfl)) <|
      DM.consM (Δ1 := ([.fz (tScr K) (fun (s : m_law_right_L11T) => s.1.1.1), .ow (oList (tInt K)) (fun (s : m_law_right_L11T) => (m_law_right_c7 s.1.1).1), .fz (tInt K) (fun (s : m_law_right_L11T) => (m_law_right_v_size_here_2 s.1.1)), .fz (tInt K) (fun (s : m_law_right_L11T) => (m_law_right_v_most_5 s.1.1)), .fz (tList (tTp [(tInt K), (tInt K)])) (fun (s : m_law_right_L11T) => (m_law_right_c6 s.1.1).2), .fz (tList (tTp [(tInt K), (tInt K)])) (fun (s : m_law_right_L11T) => (m_law_right_c7 s.1.1).2), .fz (tList (tInt K)) (fun (s : m_law_right_L11T) => (m_law_right_v_prices_10 s.1.1)), .fz (tList (tTp [(tInt K), (tInt K)])) (fun (s : m_law_right_L11T) => s.2.1), .fz (tInt K) (fun (s : m_law_right_L11T) => s.2.2), .fz (tList (tInt K)) (fun (s : m_law_right_L11T) => (m_law_right_c12 s)), .fz (tList (tTp [(tInt K), (tInt K)])) (fun (s : m_law_right_L11T) => (m_law_right_c13 s)), .dead, .dead, .dead, .dead] : Ctx K m_law_right_L11T)) (r := fun (s : m_law_right_L11T) => (if (m_law_right_h18 s) = true then (some ((m_law_right_c7 s.1.1).1, false)) else none)) (DSm.conv (DSm.ite (h := fun (s : m_law_right_L11T) => (m_law_right_h18 s)) (Δ1 := ([.fz (tScr K) (fun (s : m_law_right_L11T) => s.1.1.1), .ow (oList (tInt K)) (fun (s : m_law_right_L11T) => (m_law_right_c7 s.1.1).1), .fz (tInt K) (fun (s : m_law_right_L11T) => (m_law_right_v_size_here_2 s.1.1)), .fz (tInt K) (fun (s : m_law_right_L11T) => (m_law_right_v_most_5 s.1.1)), .fz (tList (tTp [(tInt K), (tInt K)])) (fun (s : m_law_right_L11T) => (m_law_right_c6 s.1.1).2), .fz (tList (tTp [(tInt K), (tInt K)])) (fun (s : m_law_right_L11T) => (m_law_right_c7 s.1.1).2), .fz (tList (tInt K)) (fun (s : m_law_right_L11T) => (m_law_right_v_prices_10 s.1.1)), .fz (tList (tTp [(tInt K), (tInt K)])) (fun (s : m_law_right_L11T) => s.2.1), .fz (tInt K) (fun (s : m_law_right_L11T) => s.2.2), .fz (tList (tInt K)) (fun (s : m_law_right_L11T) => (m_law_right_c12 s)), .fz (tList (tTp [(tInt K), (tInt K)])) (fun (s : m_law_right_L11T) => (m_law_right_c13 s)), .dead, .dead, .dead, .dead] : Ctx K m_law_right_L11T)) (Δa := ([.fz (tScr K) (fun (s : m_law_right_L11T) => s.1.1.1), .ow (oList (tInt K)) (fun (s : m_law_right_L11T) => (m_law_right_c7 s.1.1).1), .fz (tInt K) (fun (s : m_law_right_L11T) => (m_law_right_v_size_here_2 s.1.1)), .fz (tInt K) (fun (s : m_law_right_L11T) => (m_law_right_v_most_5 s.1.1)), .fz (tList (tTp [(tInt K), (tInt K)])) (fun (s : m_law_right_L11T) => (m_law_right_c6 s.1.1).2), .fz (tList (tTp [(tInt K), (tInt K)])) (fun (s : m_law_right_L11T) => (m_law_right_c7 s.1.1).2), .fz (tList (tInt K)) (fun (s : m_law_right_L11T) => (m_law_right_v_prices_10 s.1.1)), .fz (tList (tTp [(tInt K), (tInt K)])) (fun (s : m_law_right_L11T) => s.2.1), .fz (tInt K) (fun (s : m_law_right_L11T) => s.2.2), .fz (tList (tInt K)) (fun (s : m_law_right_L11T) => (m_law_right_c12 s)), .fz (tList (tTp [(tInt K), (tInt K)])) (fun (s : m_law_right_L11T) => (m_law_right_c13 s)), .dead, .dead, .dead, .dead] : Ctx K m_law_right_L11T)) (Δb := ([.fz (tScr K) (fun (s : m_law_right_L11T) => s.1.1.1), .ow (oList (tInt K)) (fun (s : m_law_right_L11T) => (m_law_right_c7 s.1.1).1), .fz (tInt K) (fun (s : m_law_right_L11T) => (m_law_right_v_size_here_2 s.1.1)), .fz (tInt K) (fun (s : m_law_right_L11T) => (m_law_right_v_most_5 s.1.1)), .fz (tList (tTp [(tInt K), (tInt K)])) (fun (s : m_law_right_L11T) => (m_law_right_c6 s.1.1).2), .fz (tList (tTp [(tInt K), (tInt K)])) (fun (s : m_law_right_L11T) => (m_law_right_c7 s.1.1).2), .fz (tList (tInt K)) (fun (s : m_law_right_L11T) => (m_law_right_v_prices_10 s.1.1)), .fz (tList (tTp [(tInt K), (tInt K)])) (fun (s : m_law_right_L11T) => s.2.1), .fz (tInt K) (fun (s : m_law_right_L11T) => s.2.2), .fz (tList (tInt K)) (fun (s : m_law_right_L11T) => (m_law_right_c12 s)), .fz (tList (tTp [(tInt K), (tInt K)])) (fun (s : m_law_right_L11T) => (m_law_right_c13 s)), .dead, .dead, .dead, .dead] : Ctx K m_law_right_L11T)) (DT.conv (DT.ne hr.rm dat_int (DX.ofC (fm := mcost_fm K) (τ := (tInt K)) (DC.call ((mcost_ok T).mono (by decide)) hr T.g20 T.F20.kp T.b20 (DA.cons (DX.mul DX.int (DX.var (i := 2) rfl)) (DA.cons (DX.ofL (DO.lc (own := [("_law_first", 11), ("_law_last", 12)]) (Δb := ([.fz (tScr K) (fun (s : (m_law_right_L11T × (Int × Int))) => s.1.1.1.1), .ow (oList (tInt K)) (fun (s : (m_law_right_L11T × (Int × Int))) => (m_law_right_c7 s.1.1.1).1), .fz (tInt K) (fun (s : (m_law_right_L11T × (Int × Int))) => (m_law_right_v_size_here_2 s.1.1.1)), .fz (tInt K) (fun (s : (m_law_right_L11T × (Int × Int))) => (m_law_right_v_most_5 s.1.1.1)), .fz (tList (tTp [(tInt K), (tInt K)])) (fun (s : (m_law_right_L11T × (Int × Int))) => (m_law_right_c6 s.1.1.1).2), .fz (tList (tTp [(tInt K), (tInt K)])) (fun (s : (m_law_right_L11T × (Int × Int))) => (m_law_right_c7 s.1.1.1).2), .fz (tList (tInt K)) (fun (s : (m_law_right_L11T × (Int × Int))) => (m_law_right_v_prices_10 s.1.1.1)), .fz (tList (tTp [(tInt K), (tInt K)])) (fun (s : (m_law_right_L11T × (Int × Int))) => s.1.2.1), .fz (tInt K) (fun (s : (m_law_right_L11T × (Int × Int))) => s.1.2.2), .fz (tList (tInt K)) (fun (s : (m_law_right_L11T × (Int × Int))) => (m_law_right_c12 s.1)), .fz (tList (tTp [(tInt K), (tInt K)])) (fun (s : (m_law_right_L11T × (Int × Int))) => (m_law_right_c13 s.1)), .fz (tInt K) (fun (s : (m_law_right_L11T × (Int × Int))) => s.2.1), .fz (tInt K) (fun (s : (m_law_right_L11T × (Int × Int))) => s.2.2), .dead, .dead] : Ctx K (m_law_right_L11T × (Int × Int)))) sc35.nd (DI.list ll_list (DX.var (i := 7) rfl)) (blkOk_by (N := ["_law_script", "_law_bag_here", "_law_size_here", "_law_most", "_law_one", "_law_two", "_law_prices", "_law_marks", "_law_price", "_law_edges", "_law_blocks", "_law_first", "_law_last", "_law_far", "_law_both"]) (sc := defScope (topS 35)) (own := [("_law_first", 11), ("_law_last", 12)]) (by decide +kernel)) (fun _ _ _ _ _ => (DG.tup (DGs.cons (DG.name (i := 11) sc35.nd rfl (.inl rfl)) (DGs.one (DG.name (i := 12) sc35.nd rfl (.inl rfl)))))) (fun _ _ _ _ _ => DTs'.nil) (fun _ _ _ _ _ => (DX.pu (DX.tup (DTs.cons (DX.mul DX.int (DX.var (i := 11) rfl)) (DTs.one (DX.add (DX.mul DX.int (DX.var (i := 12) rfl)) DX.int))) (hl := (by decide : 2 ≤ sizeLine))) rfl rfl)) (by decide))) DA.nil)) (.fz (.fz .nil)) (.fz (.fz .nil)) List.nodup_nil (by exact trivial)) rfl (fun _ => HEq.rfl)) (DX.len ll_list T.n_len (DX.var (i := 9) rfl)) (hn := n64 (m := 1) rfl)) rfl rfl (by exact rfl)) (by exact trivial) (
        DM.ofR <|
        DR.ret (f := fun (s : m_law_right_L11T) => ((m_law_right_c7 s.1.1).1, false)) DX.fls (OwnAll.all (by exact trivial)) (.fz (.mu rfl .nil)) ⟨rfl, fun _ => HEq.rfl, fun _ => rfl⟩
      ) (
        DM.ofN <|
        DN.fin rfl
      ) (.same (.same (.same (.same (.same (.same (.same (.same (.same (.same (.same (.same (.same (.same (.same .nil)))))))))))))))) rfl rfl (by exact rfl)) <|
      DM.ofN <|
      DN.fin rfl
    ) (.keep (sl := .fz (tScr K) (fun (s : m_law_right_S) => s.1)) (.keep (sl := .ow (oList (tInt K)) (fun (s : m_law_right_S) => (m_law_right_c7 s).1)) (.keep (sl := .fz (tInt K) (fun (s : m_law_right_S) => (m_law_right_v_size_here_2 s))) (.keep (sl := .fz (tInt K) (fun (s : m_law_right_S) => (m_law_right_v_most_5 s))) (.keep (sl := .fz (tList (tTp [(tInt K), (tInt K)])) (fun (s : m_law_right_S) => (m_law_right_c6 s).2)) (.keep (sl := .fz (tList (tTp [(tInt K), (tInt K)])) (fun (s : m_law_right_S) => (m_law_right_c7 s).2)) (.keep (sl := .fz (tList (tInt K)) (fun (s : m_law_right_S) => (m_law_right_v_prices_10 s))) (.dead (.dead (.dead (.dead (.dead (.dead (.dead (.dead .nil)))))))))))))))) rfl rfl (by exact rfl)) <|
    DR.cons (Δ1 := ([.fz (tScr K) (fun (s : m_law_right_S) => s.1), .ow (oList (tInt K)) (fun (s : m_law_right_S) => (m_law_right_c7 s).1), .fz (tInt K) (fun (s : m_law_right_S) => (m_law_right_v_size_here_2 s)), .fz (tInt K) (fun (s : m_law_right_S) => (m_law_right_v_most_5 s)), .fz (tList (tTp [(tInt K), (tInt K)])) (fun (s : m_law_right_S) => (m_law_right_c6 s).2), .fz (tList (tTp [(tInt K), (tInt K)])) (fun (s : m_law_right_S) => (m_law_right_c7 s).2), .fz (tList (tInt K)) (fun (s : m_law_right_S) => (m_law_right_v_prices_10 s)), .dead, .dead, .dead, .dead, .dead, .dead, .fz (tList (tTp [(tInt K), (tInt K)])) (fun (s : m_law_right_S) => (m_law_right_v_far_19 s)), .dead] : Ctx K m_law_right_S)) (DS.conv (DS.setSF (DOS.lc (own := [("_law_first", 11), ("_law_last", 12)]) (Δb := ([.fz (tScr K) (fun (s : (m_law_right_S × (Int × Int))) => s.1.1), .ow (oList (tInt K)) (fun (s : (m_law_right_S × (Int × Int))) => (m_law_right_c7 s.1).1), .fz (tInt K) (fun (s : (m_law_right_S × (Int × Int))) => (m_law_right_v_size_here_2 s.1)), .fz (tInt K) (fun (s : (m_law_right_S × (Int × Int))) => (m_law_right_v_most_5 s.1)), .fz (tList (tTp [(tInt K), (tInt K)])) (fun (s : (m_law_right_S × (Int × Int))) => (m_law_right_c6 s.1).2), .fz (tList (tTp [(tInt K), (tInt K)])) (fun (s : (m_law_right_S × (Int × Int))) => (m_law_right_c7 s.1).2), .fz (tList (tInt K)) (fun (s : (m_law_right_S × (Int × Int))) => (m_law_right_v_prices_10 s.1)), .dead, .dead, .dead, .dead, .fz (tInt K) (fun (s : (m_law_right_S × (Int × Int))) => s.2.1), .fz (tInt K) (fun (s : (m_law_right_S × (Int × Int))) => s.2.2), .dead, .dead] : Ctx K (m_law_right_S × (Int × Int)))) sc35.nd (DI.list ll_list (DX.var (i := 5) rfl)) (blkOk_by (N := ["_law_script", "_law_bag_here", "_law_size_here", "_law_most", "_law_one", "_law_two", "_law_prices", "_law_marks", "_law_price", "_law_edges", "_law_blocks", "_law_first", "_law_last", "_law_far", "_law_both"]) (sc := defScope (topS 35)) (own := [("_law_first", 11), ("_law_last", 12)]) (by decide +kernel)) (fun _ _ _ _ _ => (DG.tup (DGs.cons (DG.name (i := 11) sc35.nd rfl (.inl rfl)) (DGs.one (DG.name (i := 12) sc35.nd rfl (.inl rfl)))))) (fun _ _ _ _ _ => DTs'.nil) (fun _ _ _ _ _ => (DX.pu (DX.tup (DTs.cons (DX.add (DX.add (DX.var (i := 11) rfl) (DX.var (i := 2) rfl)) DX.int) (DTs.one (DX.add (DX.add (DX.var (i := 12) rfl) (DX.var (i := 2) rfl)) DX.int))) (hl := (by decide : 2 ≤ sizeLine))) rfl rfl)) (by decide)) (by exact trivial) sc35.nd (i := 13) rfl rfl (by show 13 ∉ ([1] : List Nat); decide)) rfl (by exact rfl)) <|
    DR.if1 (h := fun (s : m_law_right_S) => (!(dfInt).eq (m_law_right_c20 s) ((m_law_right_v_prices_10 s)).sum)) (Δ1 := ([.fz (tScr K) (fun (s : m_law_right_S) => s.1), .ow (oList (tInt K)) (fun (s : m_law_right_S) => (m_law_right_c7 s).1), .fz (tInt K) (fun (s : m_law_right_S) => (m_law_right_v_size_here_2 s)), .fz (tInt K) (fun (s : m_law_right_S) => (m_law_right_v_most_5 s)), .fz (tList (tTp [(tInt K), (tInt K)])) (fun (s : m_law_right_S) => (m_law_right_c6 s).2), .fz (tList (tTp [(tInt K), (tInt K)])) (fun (s : m_law_right_S) => (m_law_right_c7 s).2), .fz (tList (tInt K)) (fun (s : m_law_right_S) => (m_law_right_v_prices_10 s)), .dead, .dead, .dead, .dead, .dead, .dead, .fz (tList (tTp [(tInt K), (tInt K)])) (fun (s : m_law_right_S) => (m_law_right_v_far_19 s)), .dead] : Ctx K m_law_right_S)) (DT.conv (DT.ne hr.rm dat_int (DX.ofC (fm := mcost_fm K) (τ := (tInt K)) (DC.call ((mcost_ok T).mono (by decide)) hr T.g20 T.F20.kp T.b20 (DA.cons (DX.add (DX.mul DX.int (DX.var (i := 2) rfl)) DX.int) (DA.cons (DX.ofL (DO.cat ll_list ll_list (DX.var (i := 4) rfl) (DX.var (i := 13) rfl))) DA.nil)) (.fz (.fz .nil)) (.fz (.fz .nil)) List.nodup_nil (by exact trivial)) rfl (fun _ => HEq.rfl)) (DX.sum ll_list T.n_sum (DX.var (i := 6) rfl)) (hn := n64 (m := 1) rfl)) rfl rfl (by exact rfl)) (by exact trivial) (
      DR.ret (f := fun (s : m_law_right_S) => ((m_law_right_c7 s).1, false)) DX.fls (OwnAll.all (by exact trivial)) (.fz (.mu rfl .nil)) ⟨rfl, fun _ => HEq.rfl, fun _ => rfl⟩
    ) (
      DR.cons (Δ1 := ([.fz (tScr K) (fun (s : m_law_right_S) => s.1), .ow (oList (tInt K)) (fun (s : m_law_right_S) => (m_law_right_v_bag_here_27 s)), .fz (tInt K) (fun (s : m_law_right_S) => (m_law_right_v_size_here_2 s)), .fz (tInt K) (fun (s : m_law_right_S) => (m_law_right_v_most_5 s)), .fz (tList (tTp [(tInt K), (tInt K)])) (fun (s : m_law_right_S) => (m_law_right_v_one_28 s)), .fz (tList (tTp [(tInt K), (tInt K)])) (fun (s : m_law_right_S) => (m_law_right_v_two_29 s)), .fz (tList (tInt K)) (fun (s : m_law_right_S) => (m_law_right_v_prices_30 s)), .dead, .dead, .dead, .dead, .dead, .dead, .fz (tList (tTp [(tInt K), (tInt K)])) (fun (s : m_law_right_S) => (m_law_right_v_far_19 s)), .dead] : Ctx K m_law_right_S)) (DS.conv (DS.ite (h := fun (s : m_law_right_S) => (m_law_right_h26 s)) (Δ1 := ([.fz (tScr K) (fun (s : m_law_right_S) => s.1), .ow (oList (tInt K)) (fun (s : m_law_right_S) => (m_law_right_c7 s).1), .fz (tInt K) (fun (s : m_law_right_S) => (m_law_right_v_size_here_2 s)), .fz (tInt K) (fun (s : m_law_right_S) => (m_law_right_v_most_5 s)), .fz (tList (tTp [(tInt K), (tInt K)])) (fun (s : m_law_right_S) => (m_law_right_c6 s).2), .fz (tList (tTp [(tInt K), (tInt K)])) (fun (s : m_law_right_S) => (m_law_right_c7 s).2), .fz (tList (tInt K)) (fun (s : m_law_right_S) => (m_law_right_v_prices_10 s)), .dead, .dead, .dead, .dead, .dead, .dead, .fz (tList (tTp [(tInt K), (tInt K)])) (fun (s : m_law_right_S) => (m_law_right_v_far_19 s)), .dead] : Ctx K m_law_right_S)) (Δa := ([.fz (tScr K) (fun (s : m_law_right_S) => s.1), .ow (oList (tInt K)) (fun (s : m_law_right_S) => (m_law_right_c22 s).1), .fz (tInt K) (fun (s : m_law_right_S) => (m_law_right_v_size_here_2 s)), .fz (tInt K) (fun (s : m_law_right_S) => (m_law_right_v_most_5 s)), .fz (tList (tTp [(tInt K), (tInt K)])) (fun (s : m_law_right_S) => (m_law_right_c21 s).2), .fz (tList (tTp [(tInt K), (tInt K)])) (fun (s : m_law_right_S) => (m_law_right_c22 s).2), .fz (tList (tInt K)) (fun (s : m_law_right_S) => (m_law_right_v_prices_25 s)), .dead, .dead, .dead, .dead, .dead, .dead, .fz (tList (tTp [(tInt K), (tInt K)])) (fun (s : m_law_right_S) => (m_law_right_v_far_19 s)), .dead] : Ctx K m_law_right_S)) (Δb := ([.fz (tScr K) (fun (s : m_law_right_S) => s.1), .ow (oList (tInt K)) (fun (s : m_law_right_S) => (m_law_right_c7 s).1), .fz (tInt K) (fun (s : m_law_right_S) => (m_law_right_v_size_here_2 s)), .fz (tInt K) (fun (s : m_law_right_S) => (m_law_right_v_most_5 s)), .fz (tList (tTp [(tInt K), (tInt K)])) (fun (s : m_law_right_S) => (m_law_right_c6 s).2), .fz (tList (tTp [(tInt K), (tInt K)])) (fun (s : m_law_right_S) => (m_law_right_c7 s).2), .fz (tList (tInt K)) (fun (s : m_law_right_S) => (m_law_right_v_prices_10 s)), .dead, .dead, .dead, .dead, .dead, .dead, .fz (tList (tTp [(tInt K), (tInt K)])) (fun (s : m_law_right_S) => (m_law_right_v_far_19 s)), .dead] : Ctx K m_law_right_S)) (DT.conv (DT.ne hr.rm dat_scr (DX.var (i := 0) rfl) (DX.scrL (DX.ofL (DO.lst (τ := (tInt K)) DL.nil (hl := fun _ => (by decide : 0 ≤ sizeLine))))) (hn := n64 (m := 2) rfl)) rfl rfl (by exact rfl)) (by exact trivial) (
        DN.cons (Δ1 := ([.fz (tScr K) (fun (s : m_law_right_S) => s.1), .ow (oList (tInt K)) (fun (s : m_law_right_S) => (m_law_right_c22 s).1), .fz (tInt K) (fun (s : m_law_right_S) => (m_law_right_v_size_here_2 s)), .fz (tInt K) (fun (s : m_law_right_S) => (m_law_right_v_most_5 s)), .fz (tList (tTp [(tInt K), (tInt K)])) (fun (s : m_law_right_S) => (m_law_right_c21 s).2), .fz (tList (tTp [(tInt K), (tInt K)])) (fun (s : m_law_right_S) => (m_law_right_c22 s).2), .fz (tList (tInt K)) (fun (s : m_law_right_S) => (m_law_right_v_prices_10 s)), .dead, .dead, .dead, .dead, .dead, .dead, .fz (tList (tTp [(tInt K), (tInt K)])) (fun (s : m_law_right_S) => (m_law_right_v_far_19 s)), .dead] : Ctx K m_law_right_S)) (DS.conv (DS.par (DV.fz (DX.ofL (DO.ofC (fm := m_law_runs_fm K) (ω := (oList (tTp [(tInt K), (tInt K)]))) (DC.call ((m_law_runs_ok T).mono (by decide)) hr T.g33 T.F33.kp T.b33 (DA.mu (j := 1) rfl (DA.cons (DX.var (i := 2) rfl) (DA.cons DX.int DA.nil))) (.mu rfl (.fz (.fz .nil))) (.mu (.fz (.fz .nil))) nd1 (by exact ⟨⟨_, _, rfl⟩, trivial⟩)) rfl (fun _ => HEq.rfl)))) (DV.fz (DX.ofL (DO.ofC (fm := m_law_runs_fm K) (ω := (oList (tTp [(tInt K), (tInt K)]))) (DC.call ((m_law_runs_ok T).mono (by decide)) hr T.g33 T.F33.kp T.b33 (DA.mu (j := 1) rfl (DA.cons (DX.var (i := 2) rfl) (DA.cons DX.int DA.nil))) (.mu rfl (.fz (.fz .nil))) (.mu (.fz (.fz .nil))) nd1 (by exact ⟨⟨_, _, rfl⟩, trivial⟩)) rfl (fun _ => HEq.rfl)))) (by exact ⟨⟨_, _, rfl⟩, ⟨⟨_, _, rfl⟩, trivial⟩⟩) sc35.nd (i := 4) (j := 5) rfl rfl (by decide) rfl rfl (by show 4 ∉ ([1] : List Nat); decide) (by show 5 ∉ ([1] : List Nat); decide)) rfl (by exact rfl)) <|
        DN.cons (Δ1 := ([.fz (tScr K) (fun (s : m_law_right_S) => s.1), .ow (oList (tInt K)) (fun (s : m_law_right_S) => (m_law_right_c22 s).1), .fz (tInt K) (fun (s : m_law_right_S) => (m_law_right_v_size_here_2 s)), .fz (tInt K) (fun (s : m_law_right_S) => (m_law_right_v_most_5 s)), .fz (tList (tTp [(tInt K), (tInt K)])) (fun (s : m_law_right_S) => (m_law_right_c21 s).2), .fz (tList (tTp [(tInt K), (tInt K)])) (fun (s : m_law_right_S) => (m_law_right_c22 s).2), .fz (tList (tInt K)) (fun (s : m_law_right_S) => (m_law_right_v_prices_25 s)), .dead, .dead, .dead, .dead, .dead, .dead, .fz (tList (tTp [(tInt K), (tInt K)])) (fun (s : m_law_right_S) => (m_law_right_v_far_19 s)), .dead] : Ctx K m_law_right_S)) (DS.conv (DS.asg (DX.ofL (DO.lst (τ := (tInt K)) (DL.cons (DX.ofC (fm := mcost_fm K) (τ := (tInt K)) (DC.call ((mcost_ok T).mono (by decide)) hr T.g20 T.F20.kp T.b20 (DA.cons (DX.var (i := 2) rfl) (DA.cons (DX.var (i := 4) rfl) DA.nil)) (.fz (.fz .nil)) (.fz (.fz .nil)) List.nodup_nil (by exact trivial)) rfl (fun _ => HEq.rfl)) (DL.cons (DX.ofC (fm := mcost_fm K) (τ := (tInt K)) (DC.call ((mcost_ok T).mono (by decide)) hr T.g20 T.F20.kp T.b20 (DA.cons (DX.var (i := 2) rfl) (DA.cons (DX.var (i := 5) rfl) DA.nil)) (.fz (.fz .nil)) (.fz (.fz .nil)) List.nodup_nil (by exact trivial)) rfl (fun _ => HEq.rfl)) DL.nil)) (hl := fun _ => (by decide : 2 ≤ sizeLine)))) (DG.name (i := 6) sc35.nd rfl (.inl rfl)) (by exact trivial) (by show ∀ j ∈ ([6] : List Nat), j ∉ ([1] : List Nat); decide)) rfl (by exact rfl)) <|
        DN.fin rfl
      ) (
        DN.fin rfl
      ) (.same (.ow (.same (.same (.fz (.fz (.fz (.same (.same (.same (.same (.same (.same (.same (.same .nil)))))))))))))))) rfl rfl) <|
      DR.cons (Δ1 := ([.fz (tScr K) (fun (s : m_law_right_S) => s.1), .ow (oList (tInt K)) (fun (s : m_law_right_S) => (m_law_right_v_bag_here_27 s)), .fz (tInt K) (fun (s : m_law_right_S) => (m_law_right_v_size_here_2 s)), .fz (tInt K) (fun (s : m_law_right_S) => (m_law_right_v_most_5 s)), .fz (tList (tTp [(tInt K), (tInt K)])) (fun (s : m_law_right_S) => (m_law_right_v_one_28 s)), .fz (tList (tTp [(tInt K), (tInt K)])) (fun (s : m_law_right_S) => (m_law_right_v_two_29 s)), .fz (tList (tInt K)) (fun (s : m_law_right_S) => (m_law_right_v_prices_30 s)), .dead, .dead, .dead, .dead, .dead, .dead, .fz (tList (tTp [(tInt K), (tInt K)])) (fun (s : m_law_right_S) => (m_law_right_v_far_19 s)), .fz (tList (tTp [(tInt K), (tInt K)])) (fun (s : m_law_right_S) => (m_law_right_c31 s))] : Ctx K m_law_right_S)) (DS.conv (DS.asg (DX.ofL (DO.ofC (fm := mdifference_fm K) (ω := (oList (tTp [(tInt K), (tInt K)]))) (DC.call ((mdifference_ok T).mono (by decide)) hr T.g16 T.F16.kp T.b16 (DA.cons (DX.var (i := 2) rfl) (DA.cons (DX.var (i := 4) rfl) (DA.cons (DX.var (i := 5) rfl) DA.nil))) (.fz (.fz (.fz .nil))) (.fz (.fz (.fz .nil))) List.nodup_nil (by exact trivial)) rfl (fun _ => HEq.rfl))) (DG.name (i := 14) sc35.nd rfl (.inl rfl)) (by exact trivial) (by show ∀ j ∈ ([14] : List Nat), j ∉ ([1] : List Nat); decide)) rfl (by exact rfl)) <|
      DR.if1 (h := fun (s : m_law_right_S) => (decide (((m_law_right_v_prices_30 s)).sum < (m_law_right_c32 s)))) (Δ1 := ([.fz (tScr K) (fun (s : m_law_right_S) => s.1), .ow (oList (tInt K)) (fun (s : m_law_right_S) => (m_law_right_v_bag_here_27 s)), .fz (tInt K) (fun (s : m_law_right_S) => (m_law_right_v_size_here_2 s)), .fz (tInt K) (fun (s : m_law_right_S) => (m_law_right_v_most_5 s)), .fz (tList (tTp [(tInt K), (tInt K)])) (fun (s : m_law_right_S) => (m_law_right_v_one_28 s)), .fz (tList (tTp [(tInt K), (tInt K)])) (fun (s : m_law_right_S) => (m_law_right_v_two_29 s)), .fz (tList (tInt K)) (fun (s : m_law_right_S) => (m_law_right_v_prices_30 s)), .dead, .dead, .dead, .dead, .dead, .dead, .fz (tList (tTp [(tInt K), (tInt K)])) (fun (s : m_law_right_S) => (m_law_right_v_far_19 s)), .fz (tList (tTp [(tInt K), (tInt K)])) (fun (s : m_law_right_S) => (m_law_right_c31 s))] : Ctx K m_law_right_S)) (DT.conv (DT.gt (DX.ofC (fm := mcost_fm K) (τ := (tInt K)) (DC.call ((mcost_ok T).mono (by decide)) hr T.g20 T.F20.kp T.b20 (DA.cons (DX.var (i := 2) rfl) (DA.cons (DX.var (i := 14) rfl) DA.nil)) (.fz (.fz .nil)) (.fz (.fz .nil)) List.nodup_nil (by exact trivial)) rfl (fun _ => HEq.rfl)) (DX.sum ll_list T.n_sum (DX.var (i := 6) rfl))) rfl rfl (by exact rfl)) (by exact trivial) (
        DR.ret (f := fun (s : m_law_right_S) => ((m_law_right_v_bag_here_27 s), false)) DX.fls (OwnAll.all (by exact trivial)) (.fz (.mu rfl .nil)) ⟨rfl, fun _ => HEq.rfl, fun _ => rfl⟩
      ) (
        DR.ret (f := fun (s : m_law_right_S) => ((m_law_right_v_bag_here_27 s), ((!((dfList (dfT2 dfInt dfInt))).eq (m_law_right_c31 s) ([] : List (Int × Int))) || ((dfInt).eq (ixI (0 : Int) (m_law_right_v_prices_30 s) (0 : Int)) (ixI (0 : Int) (m_law_right_v_prices_30 s) (1 : Int)))))) (DX.or (DX.ne hr.rm (dat_list (dat_t2 dat_int dat_int)) (DX.var (i := 14) rfl) (DX.ofL (DO.lst (τ := (tTp [(tInt K), (tInt K)])) DL.nil (hl := fun _ => (by decide : 0 ≤ sizeLine)))) (hn := n64 (m := 3) rfl)) (DX.and1 (DX.pu (DX.eq hr.rm dat_int (DX.ix (ll_list (τ := (tInt K))) (0 : Int) (DX.var (i := 6) rfl) DX.int) (DX.ix (ll_list (τ := (tInt K))) (0 : Int) (DX.var (i := 6) rfl) DX.int) (hn := n64 (m := 1) rfl)) rfl rfl))) (OwnAll.all (by exact trivial)) (.fz (.mu rfl .nil)) ⟨rfl, fun _ => HEq.rfl, fun _ => rfl⟩
      )
    )
    ) (by exact fun _ => (hide_eq _).symm) (by exact fun _ h => h)
theorem mlaw_ok (T : Tx K mg) : FnG P w K mg base CX0 8 T.a36 T.d36 ["_law_script"] (SpOf (mlaw_fm K) mlaw_p mlaw) := by
  refine def_ok T.F36 sc36 rfl (by decide) fun cdv A outer s H E hr => ?_
  exact def_fin (Δ := ([.fz (tScr K) (fun (s : mlaw_S) => s.1), .dead, .dead] : Ctx K mlaw_S)) (p := mlaw_p) (fv := mlaw) (
    DR.consM (Δ1 := ([.fz (tScr K) (fun (s : mlaw_S) => s.1), .dead, .dead] : Ctx K mlaw_S)) (r := fun s => mlaw_L2R s) (DSm.conv (DSm.forH (r := fun s => mlaw_L2r s) (S := mlaw_S) (M := mlaw_L2M) (τ := (tTp [(tInt K), (tInt K)])) (init := fun s => mlaw_L2i s) (step := fun s => mlaw_L2s s) (fx := fun s => mlaw_L2x s) (Δ1 := ([.fz (tScr K) (fun (s : mlaw_S) => s.1), .dead, .dead] : Ctx K mlaw_S)) (Δl := ([.fz (tScr K) (fun (s : (mlaw_S × mlaw_L2M)) => s.1.1), .dead, .dead] : Ctx K (mlaw_S × mlaw_L2M))) (Δb := ([.fz (tScr K) (fun (s : mlaw_L2T) => s.1.1.1), .fz (tInt K) (fun (s : mlaw_L2T) => s.2.1), .fz (tInt K) (fun (s : mlaw_L2T) => s.2.2)] : Ctx K mlaw_L2T)) (Δe := ([.fz (tScr K) (fun (s : mlaw_L2T) => s.1.1.1), .fz (tInt K) (fun (s : mlaw_L2T) => s.2.1), .fz (tInt K) (fun (s : mlaw_L2T) => s.2.2)] : Ctx K mlaw_L2T)) (DI.conv (DI.enum ll_list T.n_enumerate (DX.ofL (DO.sl ll_list (DX.ofL (DO.ofC (fm := m_law_cells_fm K) (ω := (oList (tInt K))) (DC.call ((m_law_cells_ok T).mono (by decide)) hr T.g32 T.F32.kp T.b32 (DA.cons (DX.var (i := 0) rfl) DA.nil) (.fz .nil) (.fz .nil) List.nodup_nil (by exact trivial)) rfl (fun _ => HEq.rfl))) DPo.none (DPo.some DX.int)))) rfl rfl (by exact rfl)) (by exact trivial) (.keep (.dead (.dead .nil))) (DG.tup (DGs.cons (DG.name (i := 1) sc36.nd rfl (.inl rfl)) (DGs.one (DG.name (i := 2) sc36.nd rfl (.inl rfl))))) (by show ∀ j ∈ ([1, 2] : List Nat), j ∉ ([] : List Nat); decide) (
      DM.consM (Δ1 := ([.fz (tScr K) (fun (s : mlaw_L2T) => s.1.1.1), .fz (tInt K) (fun (s : mlaw_L2T) => s.2.1), .fz (tInt K) (fun (s : mlaw_L2T) => s.2.2)] : Ctx K mlaw_L2T)) (r := fun (s : mlaw_L2T) => (if (mlaw_h5 s) = true then (some false) else none)) (DSm.conv (DSm.ite (h := fun (s : mlaw_L2T) => (mlaw_h5 s)) (Δ1 := ([.fz (tScr K) (fun (s : mlaw_L2T) => s.1.1.1), .fz (tInt K) (fun (s : mlaw_L2T) => s.2.1), .fz (tInt K) (fun (s : mlaw_L2T) => s.2.2)] : Ctx K mlaw_L2T)) (Δa := ([.fz (tScr K) (fun (s : mlaw_L2T) => s.1.1.1), .fz (tInt K) (fun (s : mlaw_L2T) => s.2.1), .fz (tInt K) (fun (s : mlaw_L2T) => s.2.2)] : Ctx K mlaw_L2T)) (Δb := ([.fz (tScr K) (fun (s : mlaw_L2T) => s.1.1.1), .fz (tInt K) (fun (s : mlaw_L2T) => s.2.1), .fz (tInt K) (fun (s : mlaw_L2T) => s.2.2)] : Ctx K mlaw_L2T)) (DT.conv (DT.not (DT.ofX (DX.ofC (fm := m_law_right_fm K) (τ := (tBool K)) (DC.callN (l2 := ([] : List Nat)) (Δ2 := ([.fz (tScr K) (fun (s : mlaw_L2T) => s.1.1.1), .fz (tInt K) (fun (s : mlaw_L2T) => s.2.1), .fz (tInt K) (fun (s : mlaw_L2T) => s.2.2)] : Ctx K mlaw_L2T)) ((m_law_right_ok T).mono (by decide)) hr T.g35 T.F35.kp T.b35 (DAn.cons (DX.var (i := 0) rfl) (DAn.here (DO.ofC (fm := m_law_bag_fm K) (ω := (oList (tInt K))) (DC.call ((m_law_bag_ok T).mono (by decide)) hr T.g30 T.F30.kp T.b30 (DA.cons (DX.var (i := 2) rfl) (DA.cons (DX.var (i := 1) rfl) DA.nil)) (.fz (.fz .nil)) (.fz (.fz .nil)) List.nodup_nil (by exact trivial)) rfl (fun _ => HEq.rfl)) DA.nil (by exact trivial) 3 rfl)) (.fz (.mu rfl .nil)) (.fz (.mu .nil)) nd1 (by exact ⟨⟨_, _, rfl⟩, trivial⟩) (by show ∀ j ∈ ([3] : List Nat), j ∈ ([] : List Nat) ∨ 3 ≤ j; decide)) rfl (fun _ => HEq.rfl)))) rfl rfl (by exact rfl)) (by exact trivial) (
        DM.ofR <|
        DR.ret (f := fun (s : mlaw_L2T) => false) DX.fls (OwnAll.all (by exact trivial)) (.fz .nil) ⟨rfl, fun _ => HEq.rfl, fun _ => rfl⟩
      ) (
        DM.ofN <|
        DN.fin rfl
      ) (.same (.same (.same .nil)))) rfl rfl (by exact rfl)) <|
      DM.ofN <|
      DN.fin rfl
    ) (.keep (sl := .fz (tScr K) (fun (s : mlaw_S) => s.1)) (.dead (.dead .nil)))) rfl rfl (by exact rfl)) <|
    DR.ret (f := fun (s : mlaw_S) => true) DX.tru (OwnAll.all (by exact trivial)) (.fz .nil) ⟨rfl, fun _ => HEq.rfl, fun _ => rfl⟩
    ) (by exact fun _ => (hide_eq _).symm) (by exact fun _ h => h)
end
end Lw

namespace Lw
open PySem PySem.Spec PyProof.Rows L2 Dx
/-! ### numbers -/
theorem bits_lt {v : Int} {k : Nat} (h0 : 0 ≤ v) (h : v < 2 ^ k) : Builtin.Int.intBits v ≤ k := by
  unfold Builtin.Int.intBits
  split
  · exact Nat.zero_le _
  · rename_i n
    have h1 : v.natAbs < 2 ^ k := by
      have e : ((2 ^ k : Nat) : Int) = (2 : Int) ^ k := by simp
      omega
    have h2 : v.natAbs ≠ 0 := fun z => n (by simp; omega)
    exact (Nat.log2_lt h2).mpr h1
theorem bits_log {v : Int} {k : Nat} (h : Builtin.Int.intBits v ≤ k) : v.natAbs.log2 ≤ k := by
  unfold Builtin.Int.intBits at h
  split at h
  · rename_i z
    have : v = 0 := by simpa using z
    rw [this]
    exact Nat.zero_le _
  · omega
theorem pow_ok {v : Int} {j : Int} {k : Nat} (h0 : 0 ≤ v) (h : v < 2 ^ k) (hj : 0 ≤ j) (hk : (k : Int) * j ≤ 134217728) : CPowX v j := by
  refine ⟨hj, ?_⟩
  have h1 : (Builtin.Int.intBits v : Int) ≤ k := by exact_mod_cast bits_lt h0 h
  have h2 : (Builtin.Int.intBits v : Int) * j ≤ (k : Int) * j := Int.mul_le_mul_of_nonneg_right h1 hj
  have : (2 : Int) ^ 27 = 134217728 := by decide
  omega
theorem mul_ok {i j : Int} (h : i.natAbs + j.natAbs < 16777216) : CMulX i j := by
  have h1 := Nat.log2_le_self i.natAbs
  have h2 := Nat.log2_le_self j.natAbs
  unfold CMulX
  omega
theorem log_lt {n k : Nat} (h : n < 2 ^ k) (hk : 0 < k) : n.log2 < k := by
  by_cases e : n = 0
  · subst e
    simpa using hk
  · exact (Nat.log2_lt e).mpr h
theorem mul_log {i j : Int} {a b : Nat} (hi : i.natAbs.log2 ≤ a) (hj : j.natAbs.log2 ≤ b) (h : a + b < 8000000) : CMulX i j := by
  unfold CMulX
  omega
/-! ### the draws -/
theorem mul_big {i j : Int} (hi : i.natAbs.log2 ≤ 200) (h : j.natAbs < 16000000) : CMulX i j := by
  have h2 := Nat.log2_le_self j.natAbs
  unfold CMulX
  omega
theorem mul_big' {i j : Int} (h : i.natAbs < 16000000) (hj : j.natAbs.log2 ≤ 200) : CMulX i j := by
  have h2 := Nat.log2_le_self i.natAbs
  unfold CMulX
  omega
def Good (n : Nat) (b : List Int) : Prop := ∃ x y z : Int, b = [x, y, z] ∧ 0 ≤ x ∧ 0 ≤ y ∧ y < 2 ^ 140 ∧ 0 ≤ z ∧ z ≤ n
theorem Good.mono {n m : Nat} {b : List Int} (h : Good n b) (hn : n ≤ m) : Good m b := by
  obtain ⟨x, y, z, e, h1, h2, h3, h4, h5⟩ := h
  exact ⟨x, y, z, e, h1, h2, h3, h4, by omega⟩
theorem bag_ok {c k : Int} (hc : Builtin.Int.intBits c ≤ 1048576) (h0 : 0 ≤ k) (h1 : k ≤ 1000) : m_law_bag_p (c, k, ()) ∧ Good 0 (m_law_bag (c, k, ())) := by
  refine ⟨⟨pow_ok (k := 4) (by decide) (by decide) (by decide) (by decide), pow_ok (k := 20) (by decide) (by decide) (by decide) (by decide), ?_, pow_ok (k := 30) (by decide) (by decide) (by decide) (by decide), ?_, pow_ok (k := 4) (by decide) (by decide) (by decide) (by decide), (by decide : (0 : Int) < 10 ^ 42 + 63), trivial⟩, ?_⟩
  · exact mul_log (a := 1048576) (b := 200) (bits_log hc) (by decide) (by decide)
  · exact mul_big (by decide) (show (k + 1).natAbs < 16000000 by omega)
  · unfold m_law_bag
    rw [hide_eq]
    refine ⟨_, _, _, rfl, Int.le_max_left _ _, ?_, ?_, by decide, by decide⟩
    · exact Int.emod_nonneg _ (by decide)
    · have h2 : (c * ((1000003 : Int) ^ ((3 : Int)).toNat) + ((393343123 : Int) ^ ((4 : Int)).toNat) * (k + 1)) % (10 ^ 42 + 63) < 10 ^ 42 + 63 := Int.emod_lt_of_pos _ (by decide)
      have : ((10 : Int) ^ 42 + 63) < 2 ^ 140 := by decide
      exact Int.lt_trans h2 this
/-- what a draw says -/
theorem draw {n : Nat} {b : List Int} {c : Int} (g : Good n b) (hn : n ≤ 1000000) (h0 : 0 < c) (h1 : c.natAbs.log2 < 9000) : m_law_draw_p (b, c, ()) ∧ Good (n + 1) (m_law_draw (b, c, ())).1 ∧ 0 ≤ (m_law_draw (b, c, ())).2 ∧ (m_law_draw (b, c, ())).2 < c := by
  obtain ⟨x, y, z, rfl, hx, hy, hy2, hz, hz2⟩ := g
  have i0 : IxOk ([x, y, z] : List Int) 0 := ⟨by simp, by simp⟩
  have i2 : IxOk ([x, y, z] : List Int) 2 := ⟨by simp, by simp⟩
  have j1 : IxOk ([x, y, z + 1] : List Int) 1 := ⟨by simp, by simp⟩
  have j2 : IxOk ([x, y, z + 1] : List Int) 2 := ⟨by simp, by simp⟩
  obtain ⟨A, eA⟩ : ∃ A, A = m_law_draw_v_mixed_4 ([x, y, z], c, ()) := ⟨_, rfl⟩
  have e4 : A = (y + (z + 1) * ((2971215073 : Int) ^ ((3 : Int)).toNat)) % (10 ^ 42 + 63) := eA
  have a0 : 0 ≤ A := by rw [e4]; exact Int.emod_nonneg _ (by decide)
  have a1 : A < 10 ^ 42 + 63 := by rw [e4]; exact Int.emod_lt_of_pos _ (by decide)
  obtain ⟨B, eB⟩ : ∃ B, B = m_law_draw_v_mixed_5 ([x, y, z], c, ()) := ⟨_, rfl⟩
  have e5 : B = A ^ ((3 : Int)).toNat % (10 ^ 39 + 33) + (z + 1) * 39916801 := by rw [eB, eA]; rfl
  have m0 : 0 ≤ A ^ ((3 : Int)).toNat % (10 ^ 39 + 33) := Int.emod_nonneg _ (by decide)
  have m1 : A ^ ((3 : Int)).toNat % (10 ^ 39 + 33) < 10 ^ 39 + 33 := Int.emod_lt_of_pos _ (by decide)
  have b0 : 0 ≤ B := by rw [e5]; omega
  have b1 : B < 2 ^ 135 := by
    have : (10 : Int) ^ 39 + 33 + 39916801 * 1000001 < 2 ^ 135 := by decide
    rw [e5]; omega
  have a2 : A < 2 ^ 140 := by
    have : ((10 : Int) ^ 42 + 63) < 2 ^ 140 := by decide
    omega
  have p10 : ∀ j : Int, 0 ≤ j → j ≤ 1000 → CPowX 10 j := fun j a b => pow_ok (k := 4) (by decide) (by decide) a (by omega)
  refine ⟨⟨i0, ?_, trivial⟩, ?_⟩
  · show if decide (1 < x) = true then _ else _
    split
    · exact ⟨i0, h0, i0, ⟨h0, h1⟩, i0, trivial⟩
    · refine ⟨i2, i2, j1, j2, pow_ok (k := 32) (by decide) (by decide) (by decide) (by decide), mul_big' (i := z + 1) (by omega) (by decide), p10 42 (by decide) (by decide), (by decide : (0 : Int) < 10 ^ 42 + 63), ?_, p10 39 (by decide) (by decide), (by decide : (0 : Int) < 10 ^ 39 + 33), j2, mul_big' (i := z + 1) (by omega) (by decide), ?_, p10 37 (by decide) (by decide), (by decide : (0 : Int) < 10 ^ 37 + 43), ⟨by decide, by decide⟩, h0, trivial⟩
      · show CPowX (m_law_draw_v_mixed_4 ([x, y, z], c, ())) 3
        rw [← eA]
        exact pow_ok (k := 140) a0 a2 (by decide) (by decide)
      · show CPowX (m_law_draw_v_mixed_5 ([x, y, z], c, ())) 5
        rw [← eB]
        exact pow_ok (k := 135) b0 b1 (by decide) (by decide)
  · unfold m_law_draw
    rw [hide_eq]
    show Good (n + 1) (if decide (1 < x) = true then _ else _ : List Int × Int).1 ∧ _
    by_cases hx0 : 1 < x
    · simp only [show ixI (0 : Int) ([x, y, z], c, ()).1 0 = x from rfl, hx0, decide_true, if_true]
      exact ⟨⟨x / c, y, z, rfl, Int.ediv_nonneg hx (by omega), hy, hy2, hz, by omega⟩, Int.emod_nonneg _ (show c ≠ 0 by omega), Int.emod_lt_of_pos _ h0⟩
    · simp only [show ixI (0 : Int) ([x, y, z], c, ()).1 0 = x from rfl, hx0, decide_false, Bool.false_eq_true, if_false]
      exact ⟨⟨x, y, z + 1, rfl, hx, hy, hy2, by omega, by omega⟩, Int.emod_nonneg _ (show c ≠ 0 by omega), Int.emod_lt_of_pos _ h0⟩
end Lw

namespace Lw
open PySem PySem.Spec PyProof.Rows L2 Dx
/-! ### loops -/
theorem loop_inv {M α : Type} {step : M → α → M} {c : M → α → Prop} (I : Nat → M → Prop) : ∀ (xs : List α) (k : Nat) (m : M), I k m → (∀ j m x, k ≤ j → j < k + xs.length → x ∈ xs → I j m → c m x ∧ I (j + 1) (step m x)) → loopC c step xs m ∧ I (k + xs.length) (loopF step xs m)
  | [], k, m, h, _ => ⟨trivial, h⟩
  | x :: xs, k, m, h, hs => by
    obtain ⟨h1, h2⟩ := hs k m x (Nat.le_refl _) (by simp) (List.mem_cons_self ..) h
    obtain ⟨h3, h4⟩ := loop_inv I xs (k + 1) (step m x) h2 fun j m y hj hj2 hy => hs j m y (by omega) (by simp; omega) (List.mem_cons_of_mem _ hy)
    refine ⟨⟨h1, h3⟩, ?_⟩
    rw [show k + (x :: xs).length = k + 1 + xs.length by simp; omega]
    exact h4
theorem rangeL_len (n : Int) : (rangeL n).length = n.toNat := by simp [rangeL]
/-! ### lists of four -/
theorem ix_of {α : Type} {d : α} {xs : List α} {i : Int} {j : Nat} (h : i = (j : Int)) (hj : j < xs.length) : ixI d xs i = xs[j] := by
  subst h
  unfold ixI
  rw [if_pos (by omega)]
  simp [hj]
theorem ix_all {α : Type} {d : α} {xs : List α} {i : Int} (P : α → Prop) (h : IxOk xs i) (hp : ∀ x ∈ xs, P x) : P (ixI d xs i) := by
  obtain ⟨j, _, e⟩ := ix_at (d := d) h
  exact hp _ (List.mem_of_getElem? e)
theorem ten30 : (10 : Int) ^ ((30 : Int)).toNat = 1000000000000000000000000000000 := by decide
theorem ten9 : (10 : Int) ^ ((9 : Int)).toNat = 1000000000 := by decide
theorem ten6 : (10 : Int) ^ ((6 : Int)).toNat = 1000000 := by decide
/-! ### selections -/
def Sel (n : Int) (l : List (Int × Int)) : Prop := (∀ r ∈ l, 0 ≤ r.1 ∧ r.1 ≤ r.2 ∧ r.2 < n) ∧ l.Pairwise fun a b => a.2 + 1 < b.1
theorem Sel.nil {n : Int} : Sel n [] := ⟨fun _ h => (nomatch h), .nil⟩
theorem Sel.sub {n : Int} {l l' : List (Int × Int)} (h : Sel n l) (s : l'.Sublist l) : Sel n l' := ⟨fun r hr => h.1 r (s.subset hr), h.2.sublist s⟩
theorem Sel.erase {n : Int} {l : List (Int × Int)} (h : Sel n l) (i : Int) : Sel n (eraseI l i) := h.sub (List.eraseIdx_sublist _ _)
theorem Sel.snoc {n a b : Int} {l : List (Int × Int)} (h : Sel n l) (h0 : 0 ≤ a) (h1 : a ≤ b) (h2 : b < n) (hf : ∀ r ∈ l, r.2 + 1 < a) : Sel n (l ++ [(a, b)]) := by
  refine ⟨fun r hr => ?_, List.pairwise_append.mpr ⟨h.2, List.pairwise_singleton .., fun x hx y hy => ?_⟩⟩
  · rcases List.mem_append.mp hr with z | z
    · exact h.1 r z
    · rw [List.mem_singleton.mp z]; exact ⟨h0, h1, h2⟩
  · rw [List.mem_singleton.mp hy]; exact hf x hx
end Lw

namespace Lw
open PySem PySem.Spec PyProof.Rows L2 Dx
theorem ix_last {α : Type} {d r : α} {l : List α} : ixI d (l ++ [r]) (-1) = r := by
  unfold ixI
  rw [if_neg (by decide), List.length_append, List.length_singleton, show ((-1 : Int) + ((l.length + 1 : Nat) : Int)).toNat = l.length by omega]
  simp
theorem set_last {α : Type} {r v : α} {l : List α} : setI (l ++ [r]) (-1) v = l ++ [v] := by
  unfold setI
  rw [if_neg (by decide), List.length_append, List.length_singleton, show ((-1 : Int) + ((l.length + 1 : Nat) : Int)).toNat = l.length by omega]
  simp
theorem ixOk_last {α : Type} {l : List α} (h : l ≠ []) : IxOk l (-1) := by
  have : 0 < l.length := List.length_pos_iff.mpr h
  exact ⟨by omega, by omega⟩
theorem Sel.last {n e : Int} {l : List (Int × Int)} {r : Int × Int} (h : Sel n (l ++ [r])) (h1 : r.1 ≤ e) (h2 : e < n) : Sel n (l ++ [(r.1, e)]) := by
  obtain ⟨p, q⟩ := h
  obtain ⟨q1, q2, q3⟩ := List.pairwise_append.mp q
  exact Sel.snoc ⟨fun x hx => p x (List.mem_append_left _ hx), q1⟩ (p r (by simp)).1 h1 h2 fun x hx => q3 x hx r (by simp)
theorem snoc_of {α : Type} {l : List α} (h : l ≠ []) : ∃ l0 r, l = l0 ++ [r] := ⟨_, _, (List.dropLast_concat_getLast h).symm⟩
theorem Sel.put {n : Int} {l : List (Int × Int)} {d : Int × Int} (h : Sel n l) (hl : 1 < l.length) : Sel n (putL l none (some ((l.length : Int) / 2)) [((ixI d l 0).1, (ixI d l ((l.length : Int) / 2 - 1)).2)]) ∧ (putL l none (some ((l.length : Int) / 2)) [((ixI d l 0).1, (ixI d l ((l.length : Int) / 2 - 1)).2)]).length ≤ l.length := by
  have hk : ((l.length : Int) / 2) = ((l.length / 2 : Nat) : Int) := by omega
  have hk2 : (l.length : Int) / 2 - 1 = ((l.length / 2 - 1 : Nat) : Int) := by omega
  have e0 : ixI d l 0 = l[0]'(by omega) := ix_of (j := 0) rfl (by omega)
  have e1 : ixI d l ((l.length : Int) / 2 - 1) = l[l.length / 2 - 1]'(by omega) := ix_of hk2 (by omega)
  have ep : ∀ y, putL l none (some ((l.length : Int) / 2)) y = y ++ l.drop (l.length / 2) := fun y => by
    unfold putL
    rw [hk, show HT.sIx l.length l.length (some ((l.length / 2 : Nat) : Int)) = min (l.length / 2) l.length from HT.sIx_nat ..]
    rw [show HT.sIx l.length 0 none = 0 from HT.sIx_none ..]
    rw [show max 0 (min (l.length / 2) l.length) = l.length / 2 by omega]
    simp
  rw [ep, e0, e1]
  obtain ⟨p, q⟩ := h
  have q' := q
  rw [← List.take_append_drop (l.length / 2) l] at q'
  obtain ⟨q1, q2, q3⟩ := List.pairwise_append.mp q'
  have m0 : l[l.length / 2 - 1]'(by omega) ∈ l.take (l.length / 2) := by
    rw [List.mem_take_iff_getElem]
    exact ⟨l.length / 2 - 1, by omega, rfl⟩
  have v0 := p _ (List.getElem_mem (l := l) (n := 0) (by omega))
  have v1 := p _ (List.getElem_mem (l := l) (n := l.length / 2 - 1) (by omega))
  have le : (l[0]'(by omega)).1 ≤ (l[l.length / 2 - 1]'(by omega)).2 := by
    by_cases z : l.length / 2 - 1 = 0
    · simp only [z]
      exact v0.2.1
    · have := List.pairwise_iff_getElem.mp q 0 (l.length / 2 - 1) (by omega) (by omega) (by omega)
      omega
  refine ⟨⟨fun r hr => ?_, ?_⟩, ?_⟩
  · rcases List.mem_append.mp hr with z | z
    · rw [List.mem_singleton.mp z]
      exact ⟨v0.1, le, v1.2.2⟩
    · exact p r (List.mem_of_mem_drop z)
  · refine List.pairwise_append.mpr ⟨List.pairwise_singleton .., q2, fun x hx y hy => ?_⟩
    rw [List.mem_singleton.mp hx]
    exact q3 _ m0 y hy
  · rw [List.length_append, List.length_drop, List.length_singleton]
    omega
end Lw

namespace Lw
open PySem PySem.Spec PyProof.Rows L2 Dx
theorem df_t {α : Type} {d : DF α} {x y : α} : d.eq x y = true ↔ x = y := @decide_eq_true_iff _ (d.dec x y)
theorem df_f {α : Type} {d : DF α} {x y : α} : d.eq x y = false ↔ x ≠ y := @decide_eq_false_iff_not _ (d.dec x y)
theorem line_big : 100000 ≤ sizeLine := by decide
theorem rg_ok {n : Int} (h0 : 0 ≤ n) (h1 : n ≤ 100000) : RgOk n := ⟨Int.le_trans (by decide) h0, Int.le_trans h1 (Int.ofNat_le.mpr line_big)⟩
theorem wide_ok {z : Int} {n : Nat} (h : z ≤ 1000000000000000000000000000000) (h0 : 0 ≤ z) : z.natAbs.log2 < 9000 := by
  have h1 : z.natAbs < 2 ^ 100 := by
    have e : ((2 ^ 100 : Nat) : Int) = (2 : Int) ^ 100 := by decide
    have : (1000000000000000000000000000000 : Int) < 2 ^ 100 := by decide
    omega
  have := log_lt h1 (by decide)
  omega
theorem loop_none {M α R : Type} {step : M → α → M} {c : M → α → Prop} {r : M → α → Option R} (I : Nat → M → Prop) : ∀ (xs : List α) (k : Nat) (m : M), I k m → (∀ j m x, j < k + xs.length → x ∈ xs → I j m → c m x ∧ r m x = none ∧ I (j + 1) (step m x)) → loopCr c r step xs m ∧ loopR r step xs m = none
  | [], k, m, h, _ => ⟨trivial, rfl⟩
  | x :: xs, k, m, h, hs => by
    obtain ⟨h1, h2, h3⟩ := hs k m x (by simp) (List.mem_cons_self ..) h
    obtain ⟨h4, h5⟩ := loop_none I xs (k + 1) (step m x) h3 fun j m y hj hy => hs j m y (by simp; omega) (List.mem_cons_of_mem _ hy)
    refine ⟨⟨h1, fun _ => h4⟩, ?_⟩
    unfold loopR
    rw [h2]
    exact h5
theorem mem_range {n i : Int} : i ∈ rangeL n ↔ 0 ≤ i ∧ i < n := by
  unfold rangeL
  rw [List.mem_map]
  constructor
  · rintro ⟨k, hk, e⟩
    rw [List.mem_range] at hk
    omega
  · rintro ⟨h1, h2⟩
    exact ⟨i.toNat, List.mem_range.mpr (by omega), by omega⟩
theorem len_log {α : Type} {l : List α} (h : l.length ≤ 1000) : (l.length : Int).natAbs.log2 < 9000 := by
  have := Nat.log2_le_self (l.length : Int).natAbs
  omega
end Lw

/-! Selections, their borders: plain facts. -/
namespace Sx
open PySem Dx
/-! ### slices with a step -/
theorem step_rev {α : Type} (xs : List α) : stepL xs none none (some (-1)) = xs.reverse := by
  unfold stepL
  have e : sliceBounds none none (some (-1)) xs.length = ((xs.length : Int) - 1, -1, -1) := rfl
  rw [e]
  show List.filterMap (xs[·]?) (sliceRange ((xs.length : Int) - 1) (-1) (-1)) = _
  have e2 : sliceRange ((xs.length : Int) - 1) (-1) (-1) = (List.range xs.length).map fun k => xs.length - 1 - k := by
    unfold sliceRange
    have h : ¬ ((-1 : Int) > 0) := by decide
    simp only [h, if_false]
    have h2 : (if (xs.length : Int) - 1 > -1 then ((xs.length : Int) - 1 - -1 - -1 - 1) / (- -1) else 0) = xs.length := by
      split
      · have : ((xs.length : Int) - 1 - -1 - -1 - 1) = xs.length := by omega
        rw [this]
        have : (- -1 : Int) = 1 := by decide
        rw [this, Int.ediv_one]
      · omega
    rw [h2, Int.toNat_natCast]
    apply List.map_congr_left
    intro k hk
    rw [List.mem_range] at hk
    omega
  rw [e2, List.filterMap_map]
  apply List.ext_getElem?
  intro i
  by_cases hi : i < xs.length
  · have key : ∀ n, n ≤ xs.length → (List.filterMap ((fun x => xs[x]?) ∘ fun k => xs.length - 1 - k) (List.range n)) = (xs.reverse).take n := by
      intro n
      induction n with
      | zero => intro _; simp
      | succ n ih =>
        intro hn
        rw [List.range_succ, List.filterMap_append, ih (by omega), List.take_add_one]
        congr 1
        have h1 : xs[xs.length - 1 - n]? = some (xs[xs.length - 1 - n]'(by omega)) := List.getElem?_eq_getElem (by omega)
        simp only [List.filterMap_cons, List.filterMap_nil, Function.comp, h1]
        rw [List.getElem?_reverse (by omega), h1]
        rfl
    rw [key xs.length (Nat.le_refl _), List.take_of_length_le (by simp)]
  · have key : (List.filterMap ((fun x => xs[x]?) ∘ fun k => xs.length - 1 - k) (List.range xs.length)).length ≤ xs.length := by
      refine Nat.le_trans (List.length_filterMap_le _ _) ?_
      simp
    rw [List.getElem?_eq_none (by omega), List.getElem?_eq_none (by simp; omega)]
/-- every second one -/
def evens {α : Type} : List α → List α
  | a :: _ :: r => a :: evens r
  | [a] => [a]
  | [] => []
theorem evens_get {α : Type} : ∀ (xs : List α) (i : Nat), (evens xs)[i]? = xs[2 * i]?
  | [], i => by simp [evens]
  | [a], 0 => rfl
  | [a], i + 1 => by simp [evens]
  | a :: b :: r, 0 => rfl
  | a :: b :: r, i + 1 => by
    show (evens r)[i]? = _
    rw [evens_get r i, show 2 * (i + 1) = 2 * i + 1 + 1 by omega]
    rfl
theorem evens_len {α : Type} : ∀ xs : List α, (evens xs).length = (xs.length + 1) / 2
  | [] => by simp [evens]
  | [a] => by simp [evens]
  | a :: b :: r => by show (evens r).length + 1 = (r.length + 1 + 1 + 1) / 2; rw [evens_len r]; omega
theorem step2 {α : Type} (xs : List α) (lo : Nat) (hlo : lo ≤ 1) : stepL xs (if lo = 0 then none else some 1) none (some 2) = evens (xs.drop lo) := by
  unfold stepL
  have e : sliceBounds (if lo = 0 then none else some 1) none (some 2) xs.length = (((min lo xs.length : Nat) : Int), (xs.length : Int), 2) := by
    have : lo = 0 ∨ lo = 1 := by omega
    rcases this with rfl | rfl
    · simp [sliceBounds]
    · simp only [sliceBounds, Option.getD_some, show ¬ (1 : Nat) = 0 by decide, if_false, show (2 : Int) > 0 by decide, if_true]
      have : ¬ ((1 : Int) < 0) := by decide
      simp only [this, if_false]
      congr 1
      omega
  rw [e]
  show List.filterMap (xs[·]?) (sliceRange ((min lo xs.length : Nat) : Int) (xs.length : Int) 2) = _
  have e2 : sliceRange ((min lo xs.length : Nat) : Int) (xs.length : Int) 2 = (List.range ((xs.length - min lo xs.length + 1) / 2)).map fun k => min lo xs.length + 2 * k := by
    unfold sliceRange
    simp only [show (2 : Int) > 0 by decide, if_true]
    have h2 : (if ((min lo xs.length : Nat) : Int) < (xs.length : Int) then ((xs.length : Int) - ((min lo xs.length : Nat) : Int) + 2 - 1) / 2 else 0) = (((xs.length - min lo xs.length + 1) / 2 : Nat) : Int) := by
      split <;> omega
    rw [h2, Int.toNat_natCast]
    apply List.map_congr_left
    intro k hk
    omega
  rw [e2, List.filterMap_map]
  have hl : (evens (xs.drop lo)).length = (xs.length - min lo xs.length + 1) / 2 := by
    rw [evens_len, List.length_drop]; omega
  have key : ∀ n, n ≤ (xs.length - min lo xs.length + 1) / 2 → (List.filterMap ((fun x => xs[x]?) ∘ fun k => min lo xs.length + 2 * k) (List.range n)) = (evens (xs.drop lo)).take n := by
    intro n
    induction n with
    | zero => intro _; simp
    | succ n ih =>
      intro hn
      rw [List.range_succ, List.filterMap_append, ih (by omega), List.take_add_one]
      congr 1
      have hlt : min lo xs.length + 2 * n < xs.length := by omega
      have h1 : xs[min lo xs.length + 2 * n]? = some (xs[min lo xs.length + 2 * n]'hlt) := List.getElem?_eq_getElem hlt
      simp only [List.filterMap_cons, List.filterMap_nil, Function.comp, h1]
      rw [evens_get, List.getElem?_drop, show lo + 2 * n = min lo xs.length + 2 * n by omega, h1]
      rfl
  rw [key _ (Nat.le_refl _), List.take_of_length_le (by omega)]
theorem step2a {α : Type} (xs : List α) : stepL xs none none (some 2) = evens xs := step2 xs 0 (by decide)
theorem step2b {α : Type} (xs : List α) : stepL xs (some 1) none (some 2) = evens (xs.drop 1) := step2 xs 1 (by decide)
/-! ### borders -/
def bords : List (Int × Int) → List Int
  | [] => []
  | r :: l => r.1 :: (r.2 + 1) :: bords l
def fromB : List Int → List (Int × Int)
  | a :: b :: r => (a, b - 1) :: fromB r
  | _ => []
abbrev Asc (bs : List Int) : Prop := bs.Pairwise (· < ·)
def Sel (n : Int) (l : List (Int × Int)) : Prop := (∀ r ∈ l, 0 ≤ r.1 ∧ r.1 ≤ r.2 ∧ r.2 < n) ∧ l.Pairwise fun a b => a.2 + 1 < b.1
theorem fromB_zip : ∀ bs : List Int, (List.zip (evens bs) (evens (bs.drop 1))).map (fun x => (x.1, x.2 - 1)) = fromB bs
  | [] => rfl
  | [a] => rfl
  | a :: b :: r => by
    have h : evens ((a :: b :: r).drop 1) = b :: evens (r.drop 1) := by
      cases r <;> rfl
    show (List.zip (a :: evens r) (evens ((a :: b :: r).drop 1))).map _ = _
    rw [h]
    show (a, b - 1) :: (List.zip (evens r) (evens (r.drop 1))).map _ = _
    rw [fromB_zip r]
    rfl
theorem bords_len : ∀ l, (bords l).length = 2 * l.length
  | [] => rfl
  | r :: l => by show (bords l).length + 1 + 1 = 2 * (l.length + 1); rw [bords_len l]; omega
theorem fromB_len : ∀ bs, (fromB bs).length = bs.length / 2
  | [] => rfl
  | [a] => by simp [fromB]
  | a :: b :: r => by show (fromB r).length + 1 = (r.length + 1 + 1) / 2; rw [fromB_len r]; omega
theorem fromB_bords : ∀ l, fromB (bords l) = l
  | [] => rfl
  | (a, b) :: l => by
    show (a, b + 1 - 1) :: fromB (bords l) = _
    rw [fromB_bords l, show b + 1 - 1 = b by omega]
theorem bords_fromB : ∀ bs : List Int, bs.length % 2 = 0 → bords (fromB bs) = bs
  | [], _ => rfl
  | [a], h => by simp at h
  | a :: b :: r, h => by
    show a :: (b - 1 + 1) :: bords (fromB r) = _
    rw [bords_fromB r (by simp at h; omega), show b - 1 + 1 = b by omega]
theorem bords_mem : ∀ {l : List (Int × Int)} {x : Int}, x ∈ bords l → ∃ r ∈ l, x = r.1 ∨ x = r.2 + 1
  | r :: l, x, h => by
    rcases List.mem_cons.mp h with h | h
    · exact ⟨r, List.mem_cons_self, .inl h⟩
    · rcases List.mem_cons.mp h with h | h
      · exact ⟨r, List.mem_cons_self, .inr h⟩
      · obtain ⟨q, hq, e⟩ := bords_mem h
        exact ⟨q, List.mem_cons_of_mem _ hq, e⟩
theorem Sel.tail {n : Int} {r : Int × Int} {l : List (Int × Int)} (h : Sel n (r :: l)) : Sel n l := ⟨fun x hx => h.1 x (List.mem_cons_of_mem _ hx), (List.pairwise_cons.mp h.2).2⟩
theorem Sel.bord {n : Int} {l : List (Int × Int)} (h : Sel n l) : ∀ x ∈ bords l, 0 ≤ x ∧ x ≤ n := fun x hx => by
  obtain ⟨r, hr, e⟩ := bords_mem hx
  have := h.1 r hr
  omega
theorem Sel.asc {n : Int} : ∀ {l : List (Int × Int)}, Sel n l → Asc (bords l)
  | [], _ => .nil
  | r :: l, h => by
    have h1 := h.1 r List.mem_cons_self
    have h2 := (List.pairwise_cons.mp h.2).1
    have far : ∀ x ∈ bords l, r.2 + 1 < x := fun x hx => by
      obtain ⟨q, hq, e⟩ := bords_mem hx
      have := h2 q hq
      have := h.1 q (List.mem_cons_of_mem _ hq)
      omega
    refine List.pairwise_cons.mpr ⟨fun x hx => ?_, List.pairwise_cons.mpr ⟨far, h.tail.asc⟩⟩
    rcases List.mem_cons.mp hx with e | hx
    · omega
    · have := far x hx; omega
theorem fromB_mem : ∀ {bs : List Int} {r : Int × Int}, r ∈ fromB bs → r.1 ∈ bs ∧ r.2 + 1 ∈ bs
  | a :: b :: t, r, h => by
    rcases List.mem_cons.mp h with e | h
    · rw [e]
      exact ⟨List.mem_cons_self, by rw [show b - 1 + 1 = b by omega]; exact List.mem_cons_of_mem _ List.mem_cons_self⟩
    · obtain ⟨h1, h2⟩ := fromB_mem h
      exact ⟨List.mem_cons_of_mem _ (List.mem_cons_of_mem _ h1), List.mem_cons_of_mem _ (List.mem_cons_of_mem _ h2)⟩
theorem sel_fromB {n : Int} : ∀ {bs : List Int}, Asc bs → (∀ x ∈ bs, 0 ≤ x ∧ x ≤ n) → Sel n (fromB bs)
  | [], _, _ => ⟨fun _ h => (nomatch h), .nil⟩
  | [a], _, _ => ⟨fun _ h => (nomatch h), .nil⟩
  | a :: b :: r, h, hb => by
    obtain ⟨h1, h2⟩ := List.pairwise_cons.mp h
    obtain ⟨h3, h4⟩ := List.pairwise_cons.mp h2
    have ih := sel_fromB h4 fun x hx => hb x (List.mem_cons_of_mem _ (List.mem_cons_of_mem _ hx))
    have hab := h1 b List.mem_cons_self
    have ha := hb a List.mem_cons_self
    have hb' := hb b (List.mem_cons_of_mem _ List.mem_cons_self)
    refine ⟨fun x hx => ?_, List.pairwise_cons.mpr ⟨fun x hx => ?_, ih.2⟩⟩
    · rcases List.mem_cons.mp hx with e | hx
      · rw [e]; exact ⟨ha.1, by show a ≤ b - 1; omega, by show b - 1 < n; omega⟩
      · exact ih.1 x hx
    · have := h3 x.1 (fromB_mem hx).1
      show b - 1 + 1 < x.1
      omega
/-! ### ascending lists are their members -/
theorem asc_nodup {bs : List Int} (h : Asc bs) : bs.Nodup := h.imp fun h => by omega
theorem perm_of_mem : ∀ {xs ys : List Int}, xs.Nodup → ys.Nodup → (∀ x, x ∈ xs ↔ x ∈ ys) → xs.Perm ys
  | [], ys, _, _, h => by
    cases ys with
    | nil => exact .nil
    | cons y ys => exact absurd ((h y).mpr List.mem_cons_self) List.not_mem_nil
  | x :: xs, ys, h1, h2, h => by
    have hx := (h x).mp List.mem_cons_self
    have p := List.perm_cons_erase hx
    refine .trans (.cons x (perm_of_mem (List.nodup_cons.mp h1).2 (h2.erase x) fun z => ?_)) p.symm
    rw [h2.mem_erase_iff]
    constructor
    · intro hz
      exact ⟨fun e => (List.nodup_cons.mp h1).1 (e ▸ hz), (h z).mp (List.mem_cons_of_mem _ hz)⟩
    · rintro ⟨e, hz⟩
      exact ((List.mem_cons.mp ((h z).mpr hz)).resolve_left e)
theorem asc_ext {xs ys : List Int} (h1 : Asc xs) (h2 : Asc ys) (h : ∀ x, x ∈ xs ↔ x ∈ ys) : xs = ys :=
  sort_unique (perm_of_mem (asc_nodup h1) (asc_nodup h2) h) (h1.imp fun h => by omega) (h2.imp fun h => by omega)
/-! ### the difference -/
def diffB (A B : List Int) : List Int := (sortI (A ++ B)).filter fun x => decide (((sortI (A ++ B)).count x : Int) = 1)
theorem count_asc {A : List Int} (h : A.Nodup) (x : Int) : A.count x = if x ∈ A then 1 else 0 := h.count
theorem diffB_mem {A B : List Int} (ha : A.Nodup) (hb : B.Nodup) (x : Int) : x ∈ diffB A B ↔ ¬ (x ∈ A ↔ x ∈ B) := by
  unfold diffB
  rw [List.mem_filter, (sortI_perm _).mem_iff, List.mem_append, (sortI_perm (A ++ B)).count_eq, List.count_append, count_asc ha, count_asc hb]
  by_cases h1 : x ∈ A <;> by_cases h2 : x ∈ B <;> simp [h1, h2]
theorem diffB_asc {A B : List Int} : Asc (diffB A B) := by
  have hp : (diffB A B).Pairwise (· ≤ ·) := (sortI_pw (A ++ B)).sublist List.filter_sublist
  have hn : (diffB A B).Nodup := by
    rw [List.nodup_iff_count]
    intro x
    by_cases hx : x ∈ diffB A B
    · have h1 := (List.mem_filter.mp hx).2
      have h2 : (sortI (A ++ B)).count x = 1 := by have := of_decide_eq_true h1; omega
      exact Nat.le_trans (List.Sublist.count_le x List.filter_sublist) (by omega)
    · rw [List.count_eq_zero_of_not_mem hx]; omega
  have := hp.and hn
  exact this.imp fun ⟨h1, h2⟩ => by
    have : _ ≠ _ := h2
    omega
theorem sd_len {A B D : List Int} (ha : A.Nodup) (hb : B.Nodup) (hd : D.Nodup) (h : ∀ x, x ∈ D ↔ ¬ (x ∈ A ↔ x ∈ B)) : D.length % 2 = (A.length + B.length) % 2 := by
  have p : D.Perm (A.filter (fun x => decide (x ∉ B)) ++ B.filter (fun x => decide (x ∉ A))) := by
    refine perm_of_mem hd ?_ fun x => ?_
    · rw [List.nodup_append]
      refine ⟨ha.filter _, hb.filter _, fun a h1 b h2 e => ?_⟩
      subst e
      have := (List.mem_filter.mp h1)
      have := (List.mem_filter.mp h2)
      simp_all
    · rw [h, List.mem_append, List.mem_filter, List.mem_filter]
      by_cases h1 : x ∈ A <;> by_cases h2 : x ∈ B <;> simp [h1, h2]
  have q : (A.filter (fun x => decide (x ∈ B))).Perm (B.filter (fun x => decide (x ∈ A))) := by
    refine perm_of_mem (ha.filter _) (hb.filter _) fun x => ?_
    rw [List.mem_filter, List.mem_filter]
    by_cases h1 : x ∈ A <;> by_cases h2 : x ∈ B <;> simp [h1, h2]
  have split : ∀ (X : List Int) (P : Int → Prop) [DecidablePred P], X.length = (X.filter (fun x => decide (P x))).length + (X.filter (fun x => decide (¬ P x))).length := by
    intro X P _
    induction X with
    | nil => rfl
    | cons x X ih =>
      by_cases hx : P x
      · simp [hx] at ih ⊢; omega
      · simp [hx] at ih ⊢; omega
  have l1 := split A (· ∈ B)
  have l2 := split B (· ∈ A)
  have l3 := p.length_eq
  have l4 := q.length_eq
  rw [List.length_append] at l3
  omega
def cnt (p : Int) (bs : List Int) : Nat := (bs.filter fun x => decide (x ≤ p)).length
theorem cnt_diff {A B : List Int} (ha : A.Nodup) (hb : B.Nodup) (p : Int) : cnt p (diffB A B) % 2 = (cnt p A + cnt p B) % 2 := by
  refine sd_len (ha.filter _) (hb.filter _) ((asc_nodup diffB_asc).filter _) fun x => ?_
  rw [List.mem_filter, List.mem_filter, List.mem_filter, diffB_mem ha hb]
  by_cases h1 : x ∈ A <;> by_cases h2 : x ∈ B <;> by_cases h3 : x ≤ p <;> simp [h1, h2, h3]
theorem diffB_even {A B : List Int} (ha : A.Nodup) (hb : B.Nodup) (h1 : A.length % 2 = 0) (h2 : B.length % 2 = 0) : (diffB A B).length % 2 = 0 := by
  have := sd_len ha hb (asc_nodup diffB_asc) (diffB_mem ha hb)
  omega
theorem diffB_le (A B : List Int) : (diffB A B).length ≤ A.length + B.length := by
  refine Nat.le_trans (List.length_filter_le _ _) ?_
  rw [(sortI_perm _).length_eq, List.length_append]
  exact Nat.le_refl _
theorem diffB_assoc {A B C : List Int} (ha : A.Nodup) (hb : B.Nodup) (hc : C.Nodup) : diffB (diffB A B) C = diffB A (diffB B C) := by
  have n1 : (diffB A B).Nodup := asc_nodup diffB_asc
  have n2 : (diffB B C).Nodup := asc_nodup diffB_asc
  refine asc_ext diffB_asc diffB_asc fun x => ?_
  rw [diffB_mem n1 hc, diffB_mem ha n2, diffB_mem ha hb, diffB_mem hb hc]
  by_cases h1 : x ∈ A <;> by_cases h2 : x ∈ B <;> by_cases h3 : x ∈ C <;> simp [h1, h2, h3]
/-- the difference of two selections -/
def diffS (k l : List (Int × Int)) : List (Int × Int) := fromB (diffB (bords k) (bords l))
section
variable {n : Int} {k l : List (Int × Int)}
theorem bords_even (l : List (Int × Int)) : (bords l).length % 2 = 0 := by rw [bords_len]; omega
theorem bords_diff (hk : Sel n k) (hl : Sel n l) : bords (diffS k l) = diffB (bords k) (bords l) :=
  bords_fromB _ (diffB_even (asc_nodup hk.asc) (asc_nodup hl.asc) (bords_even k) (bords_even l))
theorem sel_diff (hk : Sel n k) (hl : Sel n l) : Sel n (diffS k l) := sel_fromB diffB_asc fun x hx => by
  have := (diffB_mem (asc_nodup hk.asc) (asc_nodup hl.asc) x).mp hx
  by_cases h1 : x ∈ bords k
  · exact hk.bord x h1
  · by_cases h2 : x ∈ bords l
    · exact hl.bord x h2
    · simp [h1, h2] at this
theorem len_diff (k l : List (Int × Int)) : (diffS k l).length ≤ k.length + l.length := by
  unfold diffS
  rw [fromB_len]
  have := diffB_le (bords k) (bords l)
  rw [bords_len, bords_len] at this
  omega
end
/-! ### marked: an odd number of borders -/
def inR (l : List (Int × Int)) (p : Int) : Bool := l.any fun r => decide (r.1 ≤ p) && decide (p ≤ r.2)
theorem cnt_none {bs : List Int} {p : Int} (h : ∀ x ∈ bs, p < x) : cnt p bs = 0 := by
  unfold cnt
  rw [List.length_eq_zero_iff, List.filter_eq_nil_iff]
  intro x hx
  have := h x hx
  simp; omega
theorem cnt_cons (p x : Int) (bs : List Int) : cnt p (x :: bs) = (if x ≤ p then 1 else 0) + cnt p bs := by
  unfold cnt
  rw [List.filter_cons]
  by_cases h : x ≤ p
  · simp [h]; omega
  · simp [h]
theorem odd_marked {n p : Int} : ∀ {l : List (Int × Int)}, Sel n l → inR l p = decide (cnt p (bords l) % 2 = 1)
  | [], _ => rfl
  | r :: l, h => by
    have h1 := h.1 r List.mem_cons_self
    have far : ∀ x ∈ bords l, r.2 + 1 < x := fun x hx => by
      have := List.pairwise_cons.mp (List.pairwise_cons.mp h.asc).2
      exact this.1 x hx
    have e : inR (r :: l) p = ((decide (r.1 ≤ p) && decide (p ≤ r.2)) || inR l p) := rfl
    have e2 : cnt p (bords (r :: l)) = (if r.1 ≤ p then 1 else 0) + ((if r.2 + 1 ≤ p then 1 else 0) + cnt p (bords l)) := by
      show cnt p (r.1 :: (r.2 + 1) :: bords l) = _
      rw [cnt_cons, cnt_cons]
    rw [e, e2]
    have ih := odd_marked (p := p) h.tail
    by_cases c1 : r.2 + 1 ≤ p
    · have : ¬ p ≤ r.2 := by omega
      have c2 : r.1 ≤ p := by omega
      simp only [c1, c2, this, decide_false, Bool.and_false, Bool.false_or, if_true, ih]
      congr 1
      apply propext
      omega
    · have z : cnt p (bords l) = 0 := cnt_none fun x hx => by have := far x hx; omega
      rw [ih, z]
      have c3 : p ≤ r.2 := by omega
      by_cases c2 : r.1 ≤ p
      · simp [c1, c2, c3]
      · simp [c1, c2, c3]
/-! ### mirrored, moved -/
theorem bords_app : ∀ k l : List (Int × Int), bords (k ++ l) = bords k ++ bords l
  | [], _ => rfl
  | r :: k, l => by show r.1 :: (r.2 + 1) :: bords (k ++ l) = _; rw [bords_app k l]; rfl
def mir (n : Int) (l : List (Int × Int)) : List (Int × Int) := l.reverse.map fun x => (n - 1 - x.2, n - 1 - x.1)
theorem bords_mir (n : Int) : ∀ l : List (Int × Int), bords (mir n l) = (bords l).reverse.map fun b => n - b
  | [] => rfl
  | r :: l => by
    have e : mir n (r :: l) = mir n l ++ [(n - 1 - r.2, n - 1 - r.1)] := by unfold mir; simp
    rw [e, bords_app, bords_mir n l]
    show _ ++ [n - 1 - r.2, n - 1 - r.1 + 1] = ((r.1 :: (r.2 + 1) :: bords l).reverse.map fun b => n - b)
    simp
    omega
theorem sel_mir {n : Int} {l : List (Int × Int)} (h : Sel n l) : Sel n (mir n l) := by
  refine ⟨fun r hr => ?_, ?_⟩
  · obtain ⟨q, hq, e⟩ := List.mem_map.mp hr
    have := h.1 q (List.mem_reverse.mp hq)
    subst e
    exact ⟨by show 0 ≤ n - 1 - q.2; omega, by show n - 1 - q.2 ≤ n - 1 - q.1; omega, by show n - 1 - q.1 < n; omega⟩
  · unfold mir
    rw [List.pairwise_map, List.pairwise_reverse]
    exact h.2.imp fun {a b} hab => by show n - 1 - b.1 + 1 < n - 1 - a.2; omega
def mov (c : Int) (l : List (Int × Int)) : List (Int × Int) := l.map fun x => (x.1 + c, x.2 + c)
theorem bords_mov (c : Int) : ∀ l : List (Int × Int), bords (mov c l) = (bords l).map fun b => b + c
  | [] => rfl
  | r :: l => by
    show (r.1 + c) :: (r.2 + c + 1) :: bords (mov c l) = (r.1 + c) :: (r.2 + 1 + c) :: (bords l).map fun b => b + c
    rw [bords_mov c l, show r.2 + c + 1 = r.2 + 1 + c by omega]
theorem sel_mov {n c : Int} {l : List (Int × Int)} (h : Sel n l) (hc : 0 ≤ c) : Sel (n + c) (mov c l) := by
  refine ⟨fun r hr => ?_, ?_⟩
  · obtain ⟨q, hq, e⟩ := List.mem_map.mp hr
    have := h.1 q hq
    subst e
    exact ⟨by show 0 ≤ q.1 + c; omega, by show q.1 + c ≤ q.2 + c; omega, by show q.2 + c < n + c; omega⟩
  · unfold mov
    rw [List.pairwise_map]
    exact h.2.imp fun {a b} hab => by show a.2 + c + 1 < b.1 + c; omega
/-! ### blocks -/
/-- one border more -/
def blk1 (m : List (Int × Int)) (b : Int) : List (Int × Int) :=
  match m.getLast? with
  | some r => if r.2 + 1 = b then m.dropLast ++ [(r.1, b)] else m ++ [(b, b)]
  | none => m ++ [(b, b)]
def blks (bs : List Int) : List (Int × Int) := bs.foldl blk1 []
def cover (m : List (Int × Int)) : List Int := m.flatMap fun r => rangeL2 r.1 (r.2 + 1)
theorem rangeL2_snoc {a b : Int} (h : a ≤ b) : rangeL2 a (b + 1) = rangeL2 a b ++ [b] := by
  unfold rangeL2
  rw [show (b + 1 - a).toNat = (b - a).toNat + 1 by omega, List.range_succ, List.map_append]
  congr 1
  simp
  omega
theorem rangeL2_one (b : Int) : rangeL2 b (b + 1) = [b] := by
  rw [rangeL2_snoc (Int.le_refl _)]
  unfold rangeL2
  rw [show (b - b).toNat = 0 by omega]
  rfl
theorem blk1_snoc {m : List (Int × Int)} {r : Int × Int} {b : Int} : blk1 (m ++ [r]) b = if r.2 + 1 = b then m ++ [(r.1, b)] else m ++ [r] ++ [(b, b)] := by
  unfold blk1
  simp
theorem snoc_cases {α : Type} (l : List α) : l = [] ∨ ∃ l0 r, l = l0 ++ [r] := by
  cases h : l with
  | nil => exact .inl rfl
  | cons a t => exact .inr ⟨_, _, (List.dropLast_concat_getLast (List.cons_ne_nil a t)).symm⟩
theorem cover_blk1 {m : List (Int × Int)} {b : Int} (h : ∀ r ∈ m, r.1 ≤ r.2) : cover (blk1 m b) = cover m ++ [b] ∧ ∀ r ∈ blk1 m b, r.1 ≤ r.2 := by
  rcases snoc_cases m with e | ⟨m0, r, e⟩
  · subst e
    refine ⟨?_, ?_⟩
    · show rangeL2 b (b + 1) ++ [] = _
      rw [rangeL2_one]; rfl
    · intro r hr
      have : r = (b, b) := by simpa [blk1] using hr
      rw [this]; exact Int.le_refl _
  · subst e
    rw [blk1_snoc]
    have hr := h r (by simp)
    by_cases c : r.2 + 1 = b
    · rw [if_pos c]
      refine ⟨?_, ?_⟩
      · unfold cover
        rw [List.flatMap_append, List.flatMap_append, List.append_assoc]
        congr 1
        simp only [List.flatMap_cons, List.flatMap_nil, List.append_nil]
        rw [c, rangeL2_snoc (by omega)]
      · intro x hx
        rcases List.mem_append.mp hx with hx | hx
        · exact h x (List.mem_append_left _ hx)
        · rw [List.mem_singleton.mp hx]; show r.1 ≤ b; omega
    · rw [if_neg c]
      refine ⟨?_, ?_⟩
      · unfold cover
        rw [List.flatMap_append (xs := m0 ++ [r])]
        congr 1
        simp only [List.flatMap_cons, List.flatMap_nil, List.append_nil]
        exact rangeL2_one b
      · intro x hx
        rcases List.mem_append.mp hx with hx | hx
        · exact h x hx
        · rw [List.mem_singleton.mp hx]; exact Int.le_refl _
theorem cover_foldl : ∀ (bs : List Int) (m : List (Int × Int)), (∀ r ∈ m, r.1 ≤ r.2) → cover (bs.foldl blk1 m) = cover m ++ bs ∧ (∀ r ∈ bs.foldl blk1 m, r.1 ≤ r.2)
  | [], m, h => ⟨by simp, h⟩
  | b :: bs, m, h => by
    obtain ⟨h1, h2⟩ := cover_blk1 (b := b) h
    obtain ⟨h3, h4⟩ := cover_foldl bs (blk1 m b) h2
    exact ⟨by rw [List.foldl_cons, h3, h1]; simp, h4⟩
theorem cover_blks (bs : List Int) : cover (blks bs) = bs := by
  have := (cover_foldl bs [] (fun _ h => (nomatch h))).1
  simpa [blks, cover] using this
theorem blks_le (bs : List Int) : ∀ r ∈ blks bs, r.1 ≤ r.2 := (cover_foldl bs [] (fun _ h => (nomatch h))).2
theorem blk1_mov (c : Int) (m : List (Int × Int)) (b : Int) : blk1 (mov c m) (b + c) = mov c (blk1 m b) := by
  rcases snoc_cases m with e | ⟨m0, r, e⟩
  · subst e; rfl
  · subst e
    have e1 : mov c (m0 ++ [r]) = mov c m0 ++ [(r.1 + c, r.2 + c)] := by unfold mov; simp
    rw [e1, blk1_snoc, blk1_snoc]
    by_cases h : r.2 + 1 = b
    · have : r.2 + c + 1 = b + c := by omega
      rw [if_pos h, if_pos this]
      unfold mov; simp
    · have : ¬ r.2 + c + 1 = b + c := by omega
      rw [if_neg h, if_neg this]
      unfold mov; simp
theorem foldl_mov (c : Int) : ∀ (bs : List Int) (m : List (Int × Int)), (bs.map fun b => b + c).foldl blk1 (mov c m) = mov c (bs.foldl blk1 m)
  | [], m => rfl
  | b :: bs, m => by
    show (bs.map fun b => b + c).foldl blk1 (blk1 (mov c m) (b + c)) = _
    rw [blk1_mov, foldl_mov c bs]
    rfl
theorem blks_mov (c : Int) (bs : List Int) : blks (bs.map fun b => b + c) = mov c (blks bs) := foldl_mov c bs []
theorem blk1_len (m : List (Int × Int)) (b : Int) : (blk1 m b).length ≤ m.length + 1 := by
  rcases snoc_cases m with e | ⟨m0, r, e⟩
  · subst e; exact Nat.le_refl _
  · subst e
    rw [blk1_snoc]
    split <;> simp
theorem foldl_len : ∀ (bs : List Int) (m : List (Int × Int)), (bs.foldl blk1 m).length ≤ m.length + bs.length
  | [], m => Nat.le_refl _
  | b :: bs, m => by
    have h1 := foldl_len bs (blk1 m b)
    have h2 := blk1_len m b
    simp only [List.foldl_cons, List.length_cons]
    omega
theorem blks_len (bs : List Int) : (blks bs).length ≤ bs.length := by
  have := foldl_len bs []
  simpa [blks] using this
theorem blk1_mem {m : List (Int × Int)} {b : Int} {P : Int → Prop} (hm : ∀ r ∈ m, P r.1 ∧ P r.2) (hb : P b) : ∀ r ∈ blk1 m b, P r.1 ∧ P r.2 := by
  rcases snoc_cases m with e | ⟨m0, r, e⟩
  · subst e
    intro x hx
    have : x = (b, b) := by simpa [blk1] using hx
    rw [this]; exact ⟨hb, hb⟩
  · subst e
    rw [blk1_snoc]
    intro x hx
    split at hx
    · rcases List.mem_append.mp hx with hx | hx
      · exact hm x (List.mem_append_left _ hx)
      · rw [List.mem_singleton.mp hx]; exact ⟨(hm r (by simp)).1, hb⟩
    · rcases List.mem_append.mp hx with hx | hx
      · exact hm x hx
      · rw [List.mem_singleton.mp hx]; exact ⟨hb, hb⟩
theorem foldl_mem {P : Int → Prop} : ∀ (bs : List Int) (m : List (Int × Int)), (∀ r ∈ m, P r.1 ∧ P r.2) → (∀ b ∈ bs, P b) → ∀ r ∈ bs.foldl blk1 m, P r.1 ∧ P r.2
  | [], _, hm, _ => hm
  | b :: bs, m, hm, hb => foldl_mem bs (blk1 m b) (blk1_mem hm (hb b List.mem_cons_self)) fun x hx => hb x (List.mem_cons_of_mem _ hx)
theorem blks_mem {bs : List Int} : ∀ r ∈ blks bs, r.1 ∈ bs ∧ r.2 ∈ bs := foldl_mem (P := (· ∈ bs)) bs [] (fun _ h => (nomatch h)) fun _ h => h
end Sx

/-! Runs gathered from the left; selections with the same marks are the same. -/
namespace Sx
open Dx
theorem cnt_step {x : Int} : ∀ {bs : List Int}, bs.Nodup → cnt x bs = cnt (x - 1) bs + if x ∈ bs then 1 else 0
  | [], _ => rfl
  | b :: bs, h => by
    obtain ⟨h1, h2⟩ := List.nodup_cons.mp h
    rw [cnt_cons, cnt_cons, cnt_step h2]
    by_cases e : b = x
    · subst e
      have : ¬ b ≤ b - 1 := by omega
      simp [h1, this]
      omega
    · by_cases m : x ∈ bs
      · have : x ∈ b :: bs := List.mem_cons_of_mem _ m
        simp only [m, this, if_true]
        by_cases l : b ≤ x
        · have : b ≤ x - 1 := by omega
          simp [l, this]; omega
        · have : ¬ b ≤ x - 1 := by omega
          simp [l, this]
      · have : x ∉ b :: bs := fun z => by
          rcases List.mem_cons.mp z with z | z
          · exact e z.symm
          · exact m z
        simp only [m, this, if_false]
        by_cases l : b ≤ x
        · have : b ≤ x - 1 := by omega
          simp [l, this]
        · have : ¬ b ≤ x - 1 := by omega
          simp [l, this]
theorem cnt_same {bs : List Int} {a p : Int} (h : ∀ x ∈ bs, ¬ (a < x ∧ x ≤ p)) (hp : a ≤ p) : cnt p bs = cnt a bs := by
  unfold cnt
  congr 1
  apply List.filter_congr
  intro x hx
  have := h x hx
  apply decide_eq_decide.mpr
  omega
section
variable {n c : Int} {k l : List (Int × Int)}
theorem bord_iff (h : Sel n l) (x : Int) : x ∈ bords l ↔ inR l (x - 1) ≠ inR l x := by
  rw [odd_marked h, odd_marked h]
  have := cnt_step (x := x) (asc_nodup h.asc)
  by_cases m : x ∈ bords l
  · simp only [m, if_true] at this
    simp only [m, true_iff]
    intro e
    have e2 : (cnt (x - 1) (bords l) % 2 = 1) = (cnt x (bords l) % 2 = 1) := by
      apply propext
      exact decide_eq_decide.mp e
    rw [this] at e2
    have e3 := (Eq.to_iff e2)
    omega
  · simp only [m, if_false] at this
    simp only [m, false_iff, Decidable.not_not]
    rw [this]; rfl
theorem inR_out (h : Sel n l) {p : Int} (hp : p < 0 ∨ n ≤ p) : inR l p = false := by
  unfold inR
  rw [List.any_eq_false]
  intro r hr
  have := h.1 r hr
  simp only [Bool.and_eq_true, decide_eq_true_eq]
  omega
theorem sel_uniq (hk : Sel n k) (hl : Sel n l) (h : ∀ p, 0 ≤ p → p < n → inR k p = inR l p) : k = l := by
  have all : ∀ p, inR k p = inR l p := fun p => by
    by_cases z : p < 0 ∨ n ≤ p
    · rw [inR_out hk z, inR_out hl z]
    · exact h p (by omega) (by omega)
  have e : bords k = bords l := asc_ext hk.asc hl.asc fun x => by
    rw [bord_iff hk, bord_iff hl, all, all]
  rw [← fromB_bords k, e, fromB_bords]
theorem inR_diff (hk : Sel n k) (hl : Sel n l) (p : Int) : inR (diffS k l) p = (inR k p != inR l p) := by
  rw [odd_marked (sel_diff hk hl), odd_marked hk, odd_marked hl, bords_diff hk hl, cnt_diff (asc_nodup hk.asc) (asc_nodup hl.asc)]
  by_cases a : cnt p (bords k) % 2 = 1 <;> by_cases b : cnt p (bords l) % 2 = 1
  · have : ¬ (cnt p (bords k) + cnt p (bords l)) % 2 = 1 := by omega
    simp [a, b, this]
  · have : (cnt p (bords k) + cnt p (bords l)) % 2 = 1 := by omega
    simp [a, b, this]
  · have : (cnt p (bords k) + cnt p (bords l)) % 2 = 1 := by omega
    simp [a, b, this]
  · have : ¬ (cnt p (bords k) + cnt p (bords l)) % 2 = 1 := by omega
    simp [a, b, this]
theorem inR_const (h : Sel n l) {a p : Int} (hb : ∀ x ∈ bords l, ¬ (a < x ∧ x ≤ p)) (hp : a ≤ p) : inR l p = inR l a := by
  rw [odd_marked h, odd_marked h, cnt_same hb hp]
theorem inR_true {p : Int} : inR l p = true ↔ ∃ r ∈ l, r.1 ≤ p ∧ p ≤ r.2 := by
  unfold inR
  rw [List.any_eq_true]
  simp only [Bool.and_eq_true, decide_eq_true_eq]
theorem inR_app (p : Int) : inR (k ++ l) p = (inR k p || inR l p) := by unfold inR; rw [List.any_append]
theorem inR_one (r : Int × Int) (p : Int) : inR [r] p = (decide (r.1 ≤ p) && decide (p ≤ r.2)) := by simp [inR]
end
/-- what is gathered of the marks M ahead of c -/
def Upto (M : Int → Bool) (c : Int) (f : List (Int × Int)) : Prop := Sel c f ∧ ∀ p, 0 ≤ p → p < c → inR f p = M p
section
variable {M : Int → Bool} {a b : Int} {f : List (Int × Int)} {r : Int × Int}
theorem Sel.wide {n m : Int} {l : List (Int × Int)} (h : Sel n l) (hm : n ≤ m) : Sel m l := ⟨fun r hr => by have := h.1 r hr; omega, h.2⟩
theorem upto_zero : Upto M 0 [] := ⟨⟨fun _ h => (nomatch h), .nil⟩, fun p h0 h1 => by omega⟩
theorem upto_skip (h : Upto M a f) (hab : a ≤ b) (hM : ∀ p, a ≤ p → p < b → M p = false) : Upto M b f :=
  ⟨h.1.wide hab, fun p h0 h1 => by
    by_cases z : p < a
    · exact h.2 p h0 z
    · rw [hM p (by omega) h1]
      exact inR_out h.1 (.inr (by omega))⟩
theorem sel_app {n x y : Int} (h : Sel n f) (h0 : 0 ≤ x) (h1 : x ≤ y) (h2 : y < n) (hf : ∀ r ∈ f, r.2 + 1 < x) : Sel n (f ++ [(x, y)]) := by
  refine ⟨fun r hr => ?_, List.pairwise_append.mpr ⟨h.2, List.pairwise_singleton .., fun x hx y hy => ?_⟩⟩
  · rcases List.mem_append.mp hr with z | z
    · exact h.1 r z
    · rw [List.mem_singleton.mp z]; exact ⟨h0, h1, h2⟩
  · rw [List.mem_singleton.mp hy]; exact hf x hx
theorem upto_app (h : Upto M a f) (h0 : 0 ≤ a) (hab : a < b) (hM : ∀ p, a ≤ p → p < b → M p = true) (hf : ∀ r ∈ f, r.2 + 1 ≠ a) : Upto M b (f ++ [(a, b - 1)]) := by
  refine ⟨sel_app (h.1.wide (by omega)) h0 (by omega) (by omega) fun r hr => ?_, fun p p0 p1 => ?_⟩
  · have := h.1.1 r hr
    have := hf r hr
    omega
  · rw [inR_app, inR_one]
    by_cases z : p < a
    · have e : ¬ a ≤ p := by omega
      rw [h.2 p p0 z, decide_eq_false e]
      simp
    · have e : a ≤ p := by omega
      have e2 : p ≤ b - 1 := by omega
      rw [hM p e p1, decide_eq_true e, decide_eq_true (show p ≤ (a, b - 1).2 from e2)]
      simp
theorem upto_ext (h : Upto M a (f ++ [r])) (hr : r.2 + 1 = a) (hab : a < b) (hM : ∀ p, a ≤ p → p < b → M p = true) : Upto M b (f ++ [(r.1, b - 1)]) := by
  have hv := h.1.1 r (by simp)
  obtain ⟨q1, q2, q3⟩ := List.pairwise_append.mp h.1.2
  have sf : Sel b f := ⟨fun x hx => by have := h.1.1 x (List.mem_append_left _ hx); omega, q1⟩
  refine ⟨sel_app sf hv.1 (by omega) (by omega) fun x hx => q3 x hx r (by simp), fun p p0 p1 => ?_⟩
  rw [inR_app, inR_one]
  by_cases z : p < a
  · have e := h.2 p p0 z
    rw [inR_app, inR_one] at e
    rw [← e]
    congr 2
    apply decide_eq_decide.mpr
    show p ≤ b - 1 ↔ p ≤ r.2
    omega
  · have e : r.1 ≤ p := by omega
    have e2 : p ≤ b - 1 := by omega
    rw [hM p (by omega) p1, decide_eq_true (show (r.1, b - 1).1 ≤ p from e), decide_eq_true (show p ≤ (r.1, b - 1).2 from e2)]
    simp
theorem last_gap (h : Sel a (f ++ [r])) (hr : r.2 + 1 ≠ a) : ∀ x ∈ f ++ [r], x.2 + 1 ≠ a := fun x hx => by
  obtain ⟨q1, q2, q3⟩ := List.pairwise_append.mp h.2
  rcases List.mem_append.mp hx with z | z
  · have := q3 x z r (by simp)
    have := h.1 r (by simp)
    omega
  · rw [List.mem_singleton.mp z]; exact hr
/-- marked ahead: the last run ends there -/
theorem last_of (h : Upto M a f) (h1 : 0 < a) (hm : M (a - 1) = true) : ∃ f0 r, f = f0 ++ [r] ∧ r.2 + 1 = a := by
  rw [← h.2 (a - 1) (by omega) (by omega), inR_true] at hm
  obtain ⟨r, hr, q1, q2⟩ := hm
  have hv := h.1.1 r hr
  rcases snoc_cases f with e | ⟨f0, l, e⟩
  · rw [e] at hr; cases hr
  · refine ⟨f0, l, e, ?_⟩
    subst e
    by_cases z : l.2 + 1 = a
    · exact z
    · exact absurd (show r.2 + 1 = a by omega) (last_gap h.1 z r hr)
theorem no_last (h : Upto M a f) (hm : a = 0 ∨ M (a - 1) = false) : ∀ r ∈ f, r.2 + 1 ≠ a := fun r hr e => by
  have hv := h.1.1 r hr
  rcases hm with z | z
  · omega
  · rw [← h.2 (a - 1) (by omega) (by omega)] at z
    have := inR_true.mpr ⟨r, hr, show r.1 ≤ a - 1 by omega, show a - 1 ≤ r.2 by omega⟩
    rw [this] at z
    cases z
end
end Sx

/-! What clicks do to selections, told by marks. -/
namespace Sx
open Dx
/-! ### sorted lists without repetition -/
theorem sortI_asc {xs : List Int} (h : xs.Nodup) : Asc (sortI xs) := by
  have h1 := sortI_pw xs
  have h2 : (sortI xs).Nodup := (sortI_perm xs).nodup_iff.mpr h
  exact List.Pairwise.imp₂ (fun a b h1 h2 => by omega) h1 h2
theorem sortI_mem {xs : List Int} {x : Int} : x ∈ sortI xs ↔ x ∈ xs := (sortI_perm xs).mem_iff
/-! ### a selection for all marks -/
theorem sel_of (M : Int → Bool) : ∀ n : Nat, ∃ f, Upto M n f
  | 0 => ⟨[], upto_zero⟩
  | n + 1 => by
    obtain ⟨f, h⟩ := sel_of M n
    have one : ∀ p : Int, (n : Int) ≤ p → p < ((n + 1 : Nat) : Int) → p = n := fun p a b => by omega
    by_cases m : M n = true
    · by_cases l : (n : Int) = 0 ∨ M ((n : Int) - 1) = false
      · exact ⟨_, upto_app (b := ((n + 1 : Nat) : Int)) h (by omega) (by omega) (fun p a b => by rw [one p a b]; exact m) (no_last h l)⟩
      · have l1 : (n : Int) ≠ 0 := fun z => l (.inl z)
        have l2 : M ((n : Int) - 1) = true := by
          cases e : M ((n : Int) - 1) with
          | true => rfl
          | false => exact absurd (.inr e) l
        obtain ⟨f0, r, e, er⟩ := last_of h (by omega) l2
        subst e
        exact ⟨_, upto_ext (b := ((n + 1 : Nat) : Int)) h er (by omega) fun p a b => by rw [one p a b]; exact m⟩
    · exact ⟨f, upto_skip h (by omega) fun p a b => by rw [one p a b]; simpa using m⟩
theorem sel_marks {n : Int} (hn : 0 ≤ n) (M : Int → Bool) (hM : ∀ p, p < 0 ∨ n ≤ p → M p = false) : ∃ T, Sel n T ∧ ∀ p, inR T p = M p := by
  obtain ⟨T, h1, h2⟩ := sel_of M n.toNat
  rw [show ((n.toNat : Nat) : Int) = n by omega] at h1 h2
  refine ⟨T, h1, fun p => ?_⟩
  by_cases z : p < 0 ∨ n ≤ p
  · rw [inR_out h1 z, hM p z]
  · exact h2 p (by omega) (by omega)
/-! ### a click -/
def clickS (l : List (Int × Int)) (i : Int) : List (Int × Int) := fromB (sortI ((bords l).filter (fun x => !decide (x ∈ [i, i + 1])) ++ [i, i + 1].filter fun x => !decide (x ∈ bords l)))
section
variable {n i a b : Int} {l : List (Int × Int)} {m : Bool}
theorem nodup_app {xs ys : List Int} (h1 : xs.Nodup) (h2 : ys.Nodup) (h : ∀ x ∈ xs, x ∉ ys) : (xs ++ ys).Nodup :=
  List.nodup_append.mpr ⟨h1, h2, fun x hx y hy e => h x hx (e ▸ hy)⟩
theorem click_ok (h : Sel n l) (h0 : 0 ≤ i) (h1 : i < n) : Sel n (clickS l i) ∧ ∀ p, inR (clickS l i) p = (inR l p != decide (p = i)) := by
  have hi : Sel n [(i, i)] := ⟨fun r hr => by rw [List.mem_singleton.mp hr]; exact ⟨h0, Int.le_refl _, h1⟩, List.pairwise_singleton _ _⟩
  have e : clickS l i = diffS l [(i, i)] := by
    unfold clickS diffS
    congr 1
    have nd : ([i, i + 1] : List Int).Nodup := by
      simp
      omega
    refine asc_ext (sortI_asc (nodup_app ((asc_nodup h.asc).filter _) (nd.filter _) fun x hx hy => ?_)) diffB_asc fun x => ?_
    · rw [List.mem_filter] at hx hy
      have := hx.2
      have hy1 := hy.1
      simp only [Bool.not_eq_true', decide_eq_false_iff_not] at this
      exact this hy1
    · rw [sortI_mem, diffB_mem (asc_nodup h.asc) (asc_nodup hi.asc), List.mem_append, List.mem_filter, List.mem_filter]
      have eb : bords [(i, i)] = [i, i + 1] := rfl
      rw [eb]
      by_cases q1 : x ∈ bords l <;> by_cases q2 : x ∈ [i, i + 1] <;> simp [q1, q2]
  rw [e]
  refine ⟨sel_diff h hi, fun p => ?_⟩
  rw [inR_diff h hi, inR_one]
  congr 1
  rw [← Bool.decide_and]
  apply decide_eq_decide.mpr
  show i ≤ p ∧ p ≤ i ↔ p = i
  omega
/-! ### a range click -/
def rangeB (l : List (Int × Int)) (a b : Int) (m : Bool) : List Int :=
  let q := (bords l).filter fun x => !(decide (a ≤ x) && decide (x ≤ b + 1))
  let q := if (inR l (a - 1) != m) = true then q ++ [a] else q
  if (inR l (b + 1) != m) = true then q ++ [b + 1] else q
def rangeS (l : List (Int × Int)) (a b : Int) (m : Bool) : List (Int × Int) := fromB (sortI (rangeB l a b m))
theorem rangeB_mem {x : Int} : x ∈ rangeB l a b m ↔ (x ∈ bords l ∧ ¬ (a ≤ x ∧ x ≤ b + 1)) ∨ (x = a ∧ inR l (a - 1) ≠ m) ∨ (x = b + 1 ∧ inR l (b + 1) ≠ m) := by
  unfold rangeB
  have hne : ∀ c d : Bool, (c != d) = true ↔ c ≠ d := fun c d => by cases c <;> cases d <;> simp
  have hf : x ∈ (bords l).filter (fun x => !(decide (a ≤ x) && decide (x ≤ b + 1))) ↔ (x ∈ bords l ∧ ¬ (a ≤ x ∧ x ≤ b + 1)) := by
    rw [List.mem_filter, Bool.not_eq_true', ← Bool.decide_and, decide_eq_false_iff_not]
  by_cases c1 : inR l (a - 1) ≠ m <;> by_cases c2 : inR l (b + 1) ≠ m
  · rw [if_pos ((hne _ _).mpr c2), if_pos ((hne _ _).mpr c1), List.mem_append, List.mem_append, hf, List.mem_singleton, List.mem_singleton]
    simp only [c1, c2, ne_eq, not_false_eq_true, and_true, or_assoc]
  · rw [if_neg (fun z => c2 ((hne _ _).mp z)), if_pos ((hne _ _).mpr c1), List.mem_append, hf, List.mem_singleton]
    rw [eq_true c1, eq_false c2]
    simp only [and_true, and_false, or_false]
  · rw [if_pos ((hne _ _).mpr c2), if_neg (fun z => c1 ((hne _ _).mp z)), List.mem_append, hf, List.mem_singleton]
    rw [eq_false c1, eq_true c2]
    simp only [and_true, and_false, false_or]
  · rw [if_neg (fun z => c2 ((hne _ _).mp z)), if_neg (fun z => c1 ((hne _ _).mp z)), hf]
    simp only [c1, c2, and_false, or_false]
theorem rangeB_nodup (h : Sel n l) (hab : a ≤ b) : (rangeB l a b m).Nodup := by
  unfold rangeB
  have nf := (asc_nodup h.asc).filter (fun x => !(decide (a ≤ x) && decide (x ≤ b + 1)))
  have out : ∀ x ∈ (bords l).filter (fun x => !(decide (a ≤ x) && decide (x ≤ b + 1))), ¬ (a ≤ x ∧ x ≤ b + 1) := fun x hx => by
    rw [List.mem_filter, Bool.not_eq_true', ← Bool.decide_and, decide_eq_false_iff_not] at hx
    exact hx.2
  have n1 : (if (inR l (a - 1) != m) = true then (bords l).filter (fun x => !(decide (a ≤ x) && decide (x ≤ b + 1))) ++ [a] else (bords l).filter (fun x => !(decide (a ≤ x) && decide (x ≤ b + 1)))).Nodup := by
    split
    · exact nodup_app nf (by simp) fun x hx hy => by have := out x hx; rw [List.mem_singleton.mp hy] at this; omega
    · exact nf
  show (if (inR l (b + 1) != m) = true then _ ++ [b + 1] else _ : List Int).Nodup
  split
  · refine nodup_app n1 (by simp) fun x hx hy => ?_
    rw [List.mem_singleton.mp hy] at hx
    split at hx
    · rcases List.mem_append.mp hx with z | z
      · have := out _ z; omega
      · have := List.mem_singleton.mp z; omega
    · have := out _ hx; omega
  · exact n1
theorem range_ok (h : Sel n l) (h0 : 0 ≤ a) (hab : a ≤ b) (h1 : b < n) : Sel n (rangeS l a b m) ∧ ∀ p, inR (rangeS l a b m) p = if a ≤ p ∧ p ≤ b then m else inR l p := by
  obtain ⟨T, t1, t2⟩ := sel_marks (n := n) (by omega) (fun p => if a ≤ p ∧ p ≤ b then m else inR l p) fun p hp => by
    have : ¬ (a ≤ p ∧ p ≤ b) := by omega
    show (if a ≤ p ∧ p ≤ b then m else inR l p) = false
    rw [if_neg this, inR_out h hp]
  have e : sortI (rangeB l a b m) = bords T := asc_ext (sortI_asc (rangeB_nodup h hab)) t1.asc fun x => by
    rw [sortI_mem, rangeB_mem, bord_iff t1, t2, t2, bord_iff h]
    by_cases c1 : x < a
    · have q1 : ¬ (a ≤ x - 1 ∧ x - 1 ≤ b) := by omega
      have q2 : ¬ (a ≤ x ∧ x ≤ b) := by omega
      have q3 : ¬ (a ≤ x ∧ x ≤ b + 1) := by omega
      have q4 : x ≠ a := by omega
      have q5 : x ≠ b + 1 := by omega
      simp only [q1, q2, q3, q4, q5, if_false, not_false_eq_true, and_true, false_and, or_false]
    · by_cases c2 : x = a
      · subst c2
        have q1 : ¬ (x ≤ x - 1 ∧ x - 1 ≤ b) := by omega
        have q2 : (x ≤ x ∧ x ≤ b) := by omega
        have q3 : (x ≤ x ∧ x ≤ b + 1) := by omega
        have q5 : x ≠ b + 1 := by omega
        simp only [q1, q2, q3, q5, if_false, if_true, not_true_eq_false, and_false, false_and, or_false, false_or, true_and]
      · by_cases c3 : x ≤ b
        · have q1 : (a ≤ x - 1 ∧ x - 1 ≤ b) := by omega
          have q2 : (a ≤ x ∧ x ≤ b) := by omega
          have q3 : (a ≤ x ∧ x ≤ b + 1) := by omega
          have q5 : x ≠ b + 1 := by omega
          simp only [q1, q2, q3, q5, c2, if_true, not_true_eq_false, and_false, false_and, or_false, ne_eq]
          simp
        · by_cases c4 : x = b + 1
          · subst c4
            have q1 : (a ≤ b + 1 - 1 ∧ b + 1 - 1 ≤ b) := by omega
            have q2 : ¬ (a ≤ b + 1 ∧ b + 1 ≤ b) := by omega
            have q3 : (a ≤ b + 1 ∧ b + 1 ≤ b + 1) := by omega
            have q5 : b + 1 ≠ a := by omega
            rw [if_pos q1, if_neg q2]
            simp only [q3, q5, not_true_eq_false, and_false, false_and, or_false, false_or, true_and]
            exact ⟨fun z => z.symm, fun z => z.symm⟩
          · have q1 : ¬ (a ≤ x - 1 ∧ x - 1 ≤ b) := by omega
            have q2 : ¬ (a ≤ x ∧ x ≤ b) := by omega
            have q3 : ¬ (a ≤ x ∧ x ≤ b + 1) := by omega
            simp only [q1, q2, q3, c2, c4, if_false, not_false_eq_true, and_true, false_and, or_false]
  have e2 : rangeS l a b m = T := by unfold rangeS; rw [e, fromB_bords]
  rw [e2]
  exact ⟨t1, t2⟩
end
end Sx

/-! States and clicks: mirrored, moved, with runs kept outside. -/
namespace Sx
open Dx PySem
abbrev StT : Type := Int × List (Int × Int) × Option Int
abbrev CkT : Type := Str × Int
def nextS (s : StT) (c : CkT) : StT :=
  if c.1 = ("click" : Str) then (s.1, clickS s.2.1 c.2, some c.2)
  else (s.1, rangeS s.2.1 (min (s.2.2.getD 0) c.2) (max (s.2.2.getD 0) c.2) (inR s.2.1 (s.2.2.getD 0)), s.2.2)
def runS : StT → List CkT → List StT
  | s, [] => [s]
  | s, c :: cs => s :: runS (nextS s c) cs
/-- a state -/
structure Vs (n : Int) (s : StT) : Prop where
  num : s.1 = n
  pos : 1 ≤ n
  sel : Sel n s.2.1
  anc : ∀ a, s.2.2 = some a → 0 ≤ a ∧ a < n
/-- a click that can be done -/
def Can (n : Int) (s : StT) (c : CkT) : Prop := 0 ≤ c.2 ∧ c.2 < n ∧ (c.1 = ("click" : Str) ∨ (c.1 = ("range" : Str) ∧ s.2.2.isSome = true))
def Cans (n : Int) : StT → List CkT → Prop
  | _, [] => True
  | s, c :: cs => Can n s c ∧ Cans n (nextS s c) cs
section
variable {n : Int} {s : StT} {c : CkT}
theorem next_valid (h : Vs n s) (hc : Can n s c) : Vs n (nextS s c) := by
  obtain ⟨c0, c1, ck⟩ := hc
  unfold nextS
  split
  · exact ⟨h.num, h.pos, (click_ok h.sel c0 c1).1, fun a e => by cases e; exact ⟨c0, c1⟩⟩
  · rename_i nk
    obtain ⟨a, ea⟩ : ∃ a, s.2.2 = some a := by
      rcases ck with e | e
      · exact absurd e nk
      · exact Option.isSome_iff_exists.mp e.2
    have ha := h.anc a ea
    rw [ea]
    exact ⟨h.num, h.pos, (range_ok h.sel (by show 0 ≤ min a c.2; omega) (by show min a c.2 ≤ max a c.2; omega) (by show max a c.2 < n; omega)).1, fun a' e => by cases e; exact ha⟩
theorem next_some (hc : Can n s c) : (nextS s c).2.2.isSome = true := by
  unfold nextS
  split
  · rfl
  · rename_i nk
    rcases hc.2.2 with e | e
    · exact absurd e nk
    · exact e.2
theorem run_length : ∀ (s : StT) (cs : List CkT), (runS s cs).length = cs.length + 1
  | _, [] => rfl
  | s, c :: cs => by show (runS (nextS s c) cs).length + 1 = _; rw [run_length]; rfl
theorem run_valid : ∀ {cs : List CkT} {s : StT}, Vs n s → Cans n s cs → ∀ t ∈ runS s cs, Vs n t
  | [], s, h, _, t, ht => by rw [List.mem_singleton.mp ht]; exact h
  | c :: cs, s, h, hc, t, ht => by
    rcases List.mem_cons.mp ht with e | ht
    · rw [e]; exact h
    · exact run_valid (next_valid h hc.1) hc.2 t ht
theorem cans_of : ∀ {cs : List CkT} {s : StT}, (∀ c ∈ cs, 0 ≤ c.2 ∧ c.2 < n ∧ (c.1 = ("click" : Str) ∨ c.1 = ("range" : Str))) → s.2.2.isSome = true → Cans n s cs
  | [], _, _, _ => trivial
  | c :: cs, s, h, hs => by
    obtain ⟨a, b, k⟩ := h c List.mem_cons_self
    have hc : Can n s c := ⟨a, b, k.imp id fun e => ⟨e, hs⟩⟩
    exact ⟨hc, cans_of (fun x hx => h x (List.mem_cons_of_mem _ hx)) (next_some hc)⟩
/-- what goes with each step goes with all -/
theorem run_comm {φ : StT → StT} {ψ : CkT → CkT} (hφ : ∀ s c, Vs n s → Can n s c → nextS (φ s) (ψ c) = φ (nextS s c)) : ∀ {cs : List CkT} {s : StT}, Vs n s → Cans n s cs → runS (φ s) (cs.map ψ) = (runS s cs).map φ
  | [], _, _, _ => rfl
  | c :: cs, s, h, hc => by
    show φ s :: runS (nextS (φ s) (ψ c)) (cs.map ψ) = φ s :: (runS (nextS s c) cs).map φ
    rw [hφ s c h hc.1, run_comm hφ (next_valid h hc.1) hc.2]
end
/-! ### marks of what is moved, mirrored -/
theorem inR_mov (c p : Int) (l : List (Int × Int)) : inR (mov c l) p = inR l (p - c) := by
  unfold inR mov
  rw [List.any_map]
  congr 1
  funext r
  show (decide (r.1 + c ≤ p) && decide (p ≤ r.2 + c)) = _
  congr 1
  · apply decide_eq_decide.mpr; omega
  · apply decide_eq_decide.mpr; omega
theorem inR_mir (n p : Int) (l : List (Int × Int)) : inR (mir n l) p = inR l (n - 1 - p) := by
  unfold inR mir
  rw [List.any_map, List.any_reverse]
  congr 1
  funext r
  show (decide (n - 1 - r.2 ≤ p) && decide (p ≤ n - 1 - r.1)) = _
  rw [Bool.and_comm]
  congr 1
  · apply decide_eq_decide.mpr; omega
  · apply decide_eq_decide.mpr; omega
/-- the state mirrored -/
def mirS (s : StT) : StT := (s.1, mir s.1 s.2.1, s.2.2.map fun a => s.1 - 1 - a)
section
variable {n : Int} {s : StT} {c : CkT}
theorem mir_valid (h : Vs n s) : Vs n (mirS s) := ⟨h.num, h.pos, by show Sel n (mir s.1 s.2.1); rw [h.num]; exact sel_mir h.sel, fun a e => by
  obtain ⟨b, eb, e2⟩ := Option.map_eq_some_iff.mp e
  have := h.anc b eb
  rw [h.num] at e2
  omega⟩
theorem mir_next (h : Vs n s) (hc : Can n s c) : nextS (mirS s) (c.1, n - 1 - c.2) = mirS (nextS s c) := by
  obtain ⟨c0, c1, ck⟩ := hc
  have sm : Sel n (mir n s.2.1) := sel_mir h.sel
  by_cases k : c.1 = ("click" : Str)
  · have e1 : nextS s c = (s.1, clickS s.2.1 c.2, some c.2) := if_pos k
    have e2 : nextS (mirS s) (c.1, n - 1 - c.2) = (s.1, clickS (mir s.1 s.2.1) (n - 1 - c.2), some (n - 1 - c.2)) := if_pos k
    rw [e1, e2]
    unfold mirS
    show (s.1, clickS (mir s.1 s.2.1) (n - 1 - c.2), some (n - 1 - c.2)) = (s.1, mir s.1 (clickS s.2.1 c.2), some (s.1 - 1 - c.2))
    rw [h.num]
    obtain ⟨a1, a2⟩ := click_ok h.sel c0 c1
    obtain ⟨b1, b2⟩ := click_ok (i := n - 1 - c.2) sm (by omega) (by omega)
    have : clickS (mir n s.2.1) (n - 1 - c.2) = mir n (clickS s.2.1 c.2) := sel_uniq b1 (sel_mir a1) fun p _ _ => by
      rw [b2, inR_mir, inR_mir, a2]
      congr 1
      apply decide_eq_decide.mpr
      omega
    rw [this]
  · obtain ⟨a, ea⟩ : ∃ a, s.2.2 = some a := by
      rcases ck with e | e
      · exact absurd e k
      · exact Option.isSome_iff_exists.mp e.2
    have ha := h.anc a ea
    have e1 : nextS s c = (s.1, rangeS s.2.1 (min a c.2) (max a c.2) (inR s.2.1 a), some a) := by
      unfold nextS
      rw [if_neg k, ea]; rfl
    have e2 : nextS (mirS s) (c.1, n - 1 - c.2) = (n, rangeS (mir n s.2.1) (min (n - 1 - a) (n - 1 - c.2)) (max (n - 1 - a) (n - 1 - c.2)) (inR (mir n s.2.1) (n - 1 - a)), some (n - 1 - a)) := by
      unfold nextS mirS
      rw [if_neg k, ea, h.num]; rfl
    rw [e1, e2]
    unfold mirS
    show _ = (s.1, mir s.1 (rangeS s.2.1 (min a c.2) (max a c.2) (inR s.2.1 a)), some (s.1 - 1 - a))
    rw [h.num]
    obtain ⟨a1, a2⟩ := range_ok (m := inR s.2.1 a) h.sel (show 0 ≤ min a c.2 by omega) (show min a c.2 ≤ max a c.2 by omega) (show max a c.2 < n by omega)
    obtain ⟨b1, b2⟩ := range_ok (m := inR (mir n s.2.1) (n - 1 - a)) sm (show 0 ≤ min (n - 1 - a) (n - 1 - c.2) by omega) (show min (n - 1 - a) (n - 1 - c.2) ≤ max (n - 1 - a) (n - 1 - c.2) by omega) (show max (n - 1 - a) (n - 1 - c.2) < n by omega)
    have : rangeS (mir n s.2.1) (min (n - 1 - a) (n - 1 - c.2)) (max (n - 1 - a) (n - 1 - c.2)) (inR (mir n s.2.1) (n - 1 - a)) = mir n (rangeS s.2.1 (min a c.2) (max a c.2) (inR s.2.1 a)) := sel_uniq b1 (sel_mir a1) fun p _ _ => by
      rw [b2, inR_mir n (n - 1 - a) s.2.1, inR_mir n p s.2.1, inR_mir n p, a2, show n - 1 - (n - 1 - a) = a by omega]
      by_cases q : min a c.2 ≤ n - 1 - p ∧ n - 1 - p ≤ max a c.2
      · rw [if_pos q, if_pos (by omega)]
      · rw [if_neg q, if_neg (by omega)]
    rw [this]
end
/-- runs that stand outside -/
structure Out (n d w : Int) (A B : List (Int × Int)) : Prop where
  d0 : 0 ≤ d
  dw : d + n ≤ w
  a1 : ∀ r ∈ A, 0 ≤ r.1 ∧ r.1 ≤ r.2 ∧ r.2 + 1 < d
  a2 : A.Pairwise fun a b => a.2 + 1 < b.1
  b1 : ∀ r ∈ B, d + n < r.1 ∧ r.1 ≤ r.2 ∧ r.2 < w
  b2 : B.Pairwise fun a b => a.2 + 1 < b.1
def putS (d w : Int) (A B : List (Int × Int)) (s : StT) : StT := (w, A ++ mov d s.2.1 ++ B, s.2.2.map fun a => a + d)
section
variable {n d w : Int} {A B : List (Int × Int)} {s : StT} {c : CkT} {l : List (Int × Int)}
theorem put_sel (o : Out n d w A B) (h1 : 1 ≤ n) (h : Sel n l) : Sel w (A ++ mov d l ++ B) := by
  have hm := sel_mov h o.d0
  have lo : ∀ r ∈ mov d l, d ≤ r.1 := fun r hr => by
    obtain ⟨q, hq, e⟩ := List.mem_map.mp hr
    have := h.1 q hq
    rw [← e]
    show d ≤ q.1 + d
    omega
  have := o.dw
  have := o.d0
  refine ⟨fun r hr => ?_, List.pairwise_append.mpr ⟨List.pairwise_append.mpr ⟨o.a2, hm.2, fun x hx y hy => ?_⟩, o.b2, fun x hx y hy => ?_⟩⟩
  · rcases List.mem_append.mp hr with hr | hr
    · rcases List.mem_append.mp hr with hr | hr
      · have := o.a1 r hr; omega
      · have := hm.1 r hr; omega
    · have := o.b1 r hr; omega
  · have := o.a1 x hx
    have := lo y hy
    omega
  · have hb := o.b1 y hy
    rcases List.mem_append.mp hx with hx | hx
    · have := o.a1 x hx; omega
    · have := hm.1 x hx; omega
theorem put_marks (o : Out n d w A B) (p : Int) : inR (A ++ mov d l ++ B) p = (inR A p || inR l (p - d) || inR B p) := by
  rw [inR_app, inR_app, inR_mov]
theorem out_marks (o : Out n d w A B) {p : Int} (h0 : d ≤ p) (h1 : p < d + n) : inR A p = false ∧ inR B p = false := by
  constructor
  · unfold inR
    rw [List.any_eq_false]
    intro r hr
    have := o.a1 r hr
    simp only [Bool.and_eq_true, decide_eq_true_eq]
    omega
  · unfold inR
    rw [List.any_eq_false]
    intro r hr
    have := o.b1 r hr
    simp only [Bool.and_eq_true, decide_eq_true_eq]
    omega
theorem put_valid (o : Out n d w A B) (h : Vs n s) : Vs w (putS d w A B s) := ⟨rfl, by have := o.d0; have := o.dw; have := h.pos; omega, put_sel o h.pos h.sel, fun a e => by
  obtain ⟨b, eb, e2⟩ := Option.map_eq_some_iff.mp e
  have := h.anc b eb
  have := o.d0
  have := o.dw
  omega⟩
theorem put_next (o : Out n d w A B) (h : Vs n s) (hc : Can n s c) : nextS (putS d w A B s) (c.1, c.2 + d) = putS d w A B (nextS s c) := by
  obtain ⟨c0, c1, ck⟩ := hc
  have sm := put_sel (l := s.2.1) o h.pos h.sel
  have d0 := o.d0
  have dw := o.dw
  by_cases k : c.1 = ("click" : Str)
  · have e1 : nextS s c = (s.1, clickS s.2.1 c.2, some c.2) := if_pos k
    have e2 : nextS (putS d w A B s) (c.1, c.2 + d) = (w, clickS (A ++ mov d s.2.1 ++ B) (c.2 + d), some (c.2 + d)) := if_pos k
    rw [e1, e2]
    show _ = (w, A ++ mov d (clickS s.2.1 c.2) ++ B, some (c.2 + d))
    obtain ⟨a1, a2⟩ := click_ok h.sel c0 c1
    obtain ⟨b1, b2⟩ := click_ok (i := c.2 + d) sm (by omega) (by omega)
    have : clickS (A ++ mov d s.2.1 ++ B) (c.2 + d) = A ++ mov d (clickS s.2.1 c.2) ++ B := sel_uniq b1 (put_sel o h.pos a1) fun p _ _ => by
      rw [b2, put_marks o, put_marks o, a2]
      by_cases q : p = c.2 + d
      · obtain ⟨o1, o2⟩ := out_marks o (p := p) (by omega) (by omega)
        have q2 : p - d = c.2 := by omega
        rw [o1, o2, decide_eq_true q, decide_eq_true q2]
        cases inR s.2.1 (p - d) <;> rfl
      · have q2 : ¬ p - d = c.2 := by omega
        rw [decide_eq_false q, decide_eq_false q2]
        cases inR A p <;> cases inR s.2.1 (p - d) <;> cases inR B p <;> rfl
    rw [this]
  · obtain ⟨a, ea⟩ : ∃ a, s.2.2 = some a := by
      rcases ck with e | e
      · exact absurd e k
      · exact Option.isSome_iff_exists.mp e.2
    have ha := h.anc a ea
    have e1 : nextS s c = (s.1, rangeS s.2.1 (min a c.2) (max a c.2) (inR s.2.1 a), some a) := by
      unfold nextS
      rw [if_neg k, ea]; rfl
    have e2 : nextS (putS d w A B s) (c.1, c.2 + d) = (w, rangeS (A ++ mov d s.2.1 ++ B) (min (a + d) (c.2 + d)) (max (a + d) (c.2 + d)) (inR (A ++ mov d s.2.1 ++ B) (a + d)), some (a + d)) := by
      unfold nextS putS
      rw [if_neg k, ea]; rfl
    rw [e1, e2]
    show _ = (w, A ++ mov d (rangeS s.2.1 (min a c.2) (max a c.2) (inR s.2.1 a)) ++ B, some (a + d))
    obtain ⟨o1, o2⟩ := out_marks o (p := a + d) (by omega) (by omega)
    have em : inR (A ++ mov d s.2.1 ++ B) (a + d) = inR s.2.1 a := by
      rw [put_marks o, o1, o2, show a + d - d = a by omega]
      cases inR s.2.1 a <;> rfl
    rw [em]
    obtain ⟨a1, a2⟩ := range_ok (m := inR s.2.1 a) h.sel (show 0 ≤ min a c.2 by omega) (show min a c.2 ≤ max a c.2 by omega) (show max a c.2 < n by omega)
    obtain ⟨b1, b2⟩ := range_ok (m := inR s.2.1 a) sm (show 0 ≤ min (a + d) (c.2 + d) by omega) (show min (a + d) (c.2 + d) ≤ max (a + d) (c.2 + d) by omega) (show max (a + d) (c.2 + d) < w by omega)
    have : rangeS (A ++ mov d s.2.1 ++ B) (min (a + d) (c.2 + d)) (max (a + d) (c.2 + d)) (inR s.2.1 a) = A ++ mov d (rangeS s.2.1 (min a c.2) (max a c.2) (inR s.2.1 a)) ++ B := sel_uniq b1 (put_sel o h.pos a1) fun p _ _ => by
      rw [b2, put_marks o, put_marks o, a2]
      by_cases q : min a c.2 ≤ p - d ∧ p - d ≤ max a c.2
      · obtain ⟨o1, o2⟩ := out_marks o (p := p) (by omega) (by omega)
        rw [if_pos q, if_pos (by omega), o1, o2]
        cases inR s.2.1 a <;> rfl
      · rw [if_neg q, if_neg (by omega)]
    rw [this]
end
end Sx

/-! Borders behind a click; what blocks cost. -/
namespace Sx
open Dx
section
variable {n i a b x : Int} {l : List (Int × Int)} {m : Bool}
theorem click_bords (h : Sel n l) (h0 : 0 ≤ i) (h1 : i < n) : x ∈ bords (clickS l i) ↔ ¬ (x ∈ bords l ↔ (x = i ∨ x = i + 1)) := by
  obtain ⟨c1, c2⟩ := click_ok h h0 h1
  rw [bord_iff c1, bord_iff h, c2, c2]
  by_cases e1 : x = i
  · have q : ¬ x - 1 = i := by omega
    simp only [e1, q, decide_true, decide_false, true_or, iff_true]
    have q2 : decide (i - 1 = i) = false := decide_eq_false (by omega)
    rw [q2]
    cases inR l (i - 1) <;> cases inR l i <;> simp
  · by_cases e2 : x = i + 1
    · have q : decide (x - 1 = i) = true := decide_eq_true (by omega)
      have q2 : decide (x = i) = false := decide_eq_false (by omega)
      simp only [q, q2, e2, or_true, iff_true]
      cases inR l (i + 1 - 1) <;> cases inR l (i + 1) <;> simp <;> omega
    · have q : decide (x - 1 = i) = false := decide_eq_false (by omega)
      have q2 : decide (x = i) = false := decide_eq_false (by omega)
      simp only [q, q2, e1, e2, or_self, iff_false, Decidable.not_not]
      cases inR l (x - 1) <;> cases inR l x <;> simp
theorem range_out (h : Sel n l) (h0 : 0 ≤ a) (hab : a ≤ b) (h1 : b < n) (hx : x < a ∨ b + 1 < x) : x ∈ bords (rangeS l a b m) ↔ x ∈ bords l := by
  obtain ⟨c1, c2⟩ := range_ok (m := m) h h0 hab h1
  rw [bord_iff c1, bord_iff h, c2, c2, if_neg (by omega), if_neg (by omega)]
theorem range_in (h : Sel n l) (h0 : 0 ≤ a) (hab : a ≤ b) (h1 : b < n) (hx : a < x ∧ x ≤ b) : x ∉ bords (rangeS l a b m) := by
  obtain ⟨c1, c2⟩ := range_ok (m := m) h h0 hab h1
  rw [bord_iff c1, c2, c2, if_pos (by omega), if_pos (by omega)]
  simp
theorem range_low (h : Sel n l) (h0 : 0 ≤ a) (hab : a ≤ b) (h1 : b < n) (hm : inR l a = m) : a ∈ bords (rangeS l a b m) ↔ a ∈ bords l := by
  obtain ⟨c1, c2⟩ := range_ok (m := m) h h0 hab h1
  rw [bord_iff c1, bord_iff h, c2, c2, if_neg (by omega), if_pos (by omega), hm]
theorem range_high (h : Sel n l) (h0 : 0 ≤ a) (hab : a ≤ b) (h1 : b < n) (hm : inR l b = m) : b + 1 ∈ bords (rangeS l a b m) ↔ b + 1 ∈ bords l := by
  obtain ⟨c1, c2⟩ := range_ok (m := m) h h0 hab h1
  rw [bord_iff c1, bord_iff h, c2, c2, if_pos (by omega), if_neg (by omega), show b + 1 - 1 = b by omega, hm]
end
/-! ### blocks and their cost -/
theorem blks_gap : ∀ (bs : List Int) (m : List (Int × Int)), Asc bs → (∀ r ∈ m, r.1 ≤ r.2 ∧ ∀ x ∈ bs, r.2 < x) → (m.Pairwise fun a b => a.2 + 1 < b.1) → (bs.foldl blk1 m).Pairwise fun a b => a.2 + 1 < b.1
  | [], m, _, _, h => h
  | b :: bs, m, ha, hm, h => by
    obtain ⟨a1, a2⟩ := List.pairwise_cons.mp ha
    show (bs.foldl blk1 (blk1 m b)).Pairwise _
    have main : (∀ r ∈ blk1 m b, r.1 ≤ r.2 ∧ r.2 ≤ b) ∧ (blk1 m b).Pairwise fun a b => a.2 + 1 < b.1 := by
      rcases snoc_cases m with e | ⟨m0, r, e⟩
      · subst e
        have e1 : blk1 [] b = [(b, b)] := rfl
        rw [e1]
        exact ⟨fun r hr => by rw [List.mem_singleton.mp hr]; exact ⟨Int.le_refl _, Int.le_refl _⟩, List.pairwise_singleton _ _⟩
      · subst e
        rw [blk1_snoc]
        obtain ⟨p1, p2, p3⟩ := List.pairwise_append.mp h
        have hr := hm r (by simp)
        have hrb := hr.2 b (by simp)
        split
        · rename_i q
          refine ⟨fun s hs => ?_, List.pairwise_append.mpr ⟨p1, List.pairwise_singleton _ _, fun s hs t ht => ?_⟩⟩
          · rcases List.mem_append.mp hs with z | z
            · have := hm s (List.mem_append_left _ z)
              have := this.2 b (by simp)
              omega
            · rw [List.mem_singleton.mp z]
              exact ⟨by show r.1 ≤ b; omega, Int.le_refl _⟩
          · rw [List.mem_singleton.mp ht]
            exact p3 s hs r (by simp)
        · rename_i q
          refine ⟨fun s hs => ?_, List.pairwise_append.mpr ⟨h, List.pairwise_singleton _ _, fun s hs t ht => ?_⟩⟩
          · rcases List.mem_append.mp hs with z | z
            · have := hm s z
              have := this.2 b (by simp)
              omega
            · rw [List.mem_singleton.mp z]
              exact ⟨Int.le_refl _, Int.le_refl _⟩
          · rw [List.mem_singleton.mp ht]
            show s.2 + 1 < b
            rcases List.mem_append.mp hs with z | z
            · have := p3 s z r (by simp)
              have := (hm r (by simp)).1
              omega
            · rw [List.mem_singleton.mp z]
              omega
    exact blks_gap bs _ a2 (fun r hr => by
      obtain ⟨q1, q2⟩ := main.1 r hr
      exact ⟨q1, fun x hx => by have := a1 x hx; omega⟩) main.2
def toks (r : Int × Int) : List Int := (List.range ((r.2 - r.1 + 2) / 2).toNat).map fun (k : Nat) => r.1 + 2 * (k : Int)
def pts (bs : List Int) : List Int := (blks bs).flatMap toks
def costB (bs : List Int) : Int := ((blks bs).map fun r => (r.2 - r.1 + 2) / 2).sum
theorem toks_mem {r : Int × Int} {t : Int} (h : t ∈ toks r) : r.1 ≤ t ∧ t ≤ r.2 := by
  obtain ⟨k, hk, e⟩ := List.mem_map.mp h
  rw [List.mem_range] at hk
  omega
theorem toks_gap (r : Int × Int) : (toks r).Pairwise fun a b => a + 2 ≤ b := by
  unfold toks
  rw [List.pairwise_map]
  exact List.pairwise_lt_range.imp fun h => by omega
theorem toks_cov {r : Int × Int} {x : Int} (h1 : r.1 ≤ x) (h2 : x ≤ r.2) : ∃ t ∈ toks r, x = t ∨ x = t + 1 := by
  refine ⟨r.1 + 2 * (((x - r.1) / 2).toNat : Int), List.mem_map.mpr ⟨((x - r.1) / 2).toNat, List.mem_range.mpr (by omega), rfl⟩, by omega⟩
theorem sum_toks : ∀ {m : List (Int × Int)}, (∀ r ∈ m, r.1 ≤ r.2) → ((m.flatMap toks).length : Int) = (m.map fun r => (r.2 - r.1 + 2) / 2).sum
  | [], _ => rfl
  | r :: m, h => by
    have h1 := h r (by simp)
    have ih := sum_toks (m := m) fun s hs => h s (List.mem_cons_of_mem _ hs)
    rw [List.flatMap_cons, List.length_append, List.map_cons, List.sum_cons, ← ih]
    have e : ((toks r).length : Int) = (r.2 - r.1 + 2) / 2 := by
      unfold toks
      rw [List.length_map, List.length_range]
      omega
    omega
theorem pts_len (bs : List Int) : ((pts bs).length : Int) = costB bs := sum_toks (blks_le bs)
theorem cover_iff {m : List (Int × Int)} {x : Int} : x ∈ cover m ↔ ∃ r ∈ m, r.1 ≤ x ∧ x ≤ r.2 := by
  unfold cover
  rw [List.mem_flatMap]
  constructor
  · rintro ⟨r, hr, h⟩
    unfold rangeL2 at h
    obtain ⟨k, hk, e⟩ := List.mem_map.mp h
    rw [List.mem_range] at hk
    exact ⟨r, hr, by omega, by omega⟩
  · rintro ⟨r, hr, h1, h2⟩
    refine ⟨r, hr, ?_⟩
    unfold rangeL2
    exact List.mem_map.mpr ⟨(x - r.1).toNat, List.mem_range.mpr (by omega), by omega⟩
theorem pts_cov {bs : List Int} {x : Int} (h : x ∈ bs) : ∃ t ∈ pts bs, x = t ∨ x = t + 1 := by
  rw [← cover_blks bs] at h
  obtain ⟨r, hr, h1, h2⟩ := cover_iff.mp h
  obtain ⟨t, ht, e⟩ := toks_cov h1 h2
  exact ⟨t, List.mem_flatMap.mpr ⟨r, hr, ht⟩, e⟩
theorem pts_sub {bs : List Int} {t : Int} (h : t ∈ pts bs) : t ∈ bs := by
  obtain ⟨r, hr, ht⟩ := List.mem_flatMap.mp h
  rw [← cover_blks bs]
  exact cover_iff.mpr ⟨r, hr, toks_mem ht⟩
theorem flat_gap : ∀ {m : List (Int × Int)}, (m.Pairwise fun a b => a.2 + 1 < b.1) → (m.flatMap toks).Pairwise fun a b => a + 2 ≤ b
  | [], _ => .nil
  | r :: m, h => by
    obtain ⟨h1, h2⟩ := List.pairwise_cons.mp h
    rw [List.flatMap_cons]
    refine List.pairwise_append.mpr ⟨toks_gap r, flat_gap h2, fun x hx y hy => ?_⟩
    obtain ⟨s, hs, hy⟩ := List.mem_flatMap.mp hy
    have := toks_mem hx
    have := toks_mem hy
    have := h1 s hs
    omega
theorem pts_gap {bs : List Int} (h : Asc bs) : (pts bs).Pairwise fun a b => a + 2 ≤ b := flat_gap (blks_gap bs [] h (fun _ h => (nomatch h)) .nil)
theorem few_toks : ∀ {xs ts : List Int}, (xs.Pairwise fun a b => a + 2 ≤ b) → (∀ x ∈ xs, ∃ t ∈ ts, x = t ∨ x = t + 1) → xs.length ≤ ts.length
  | [], _, _, _ => Nat.zero_le _
  | x :: xs, ts, h, hc => by
    obtain ⟨h1, h2⟩ := List.pairwise_cons.mp h
    obtain ⟨t, ht, e⟩ := hc x (by simp)
    have := few_toks (xs := xs) (ts := ts.erase t) h2 fun y hy => by
      obtain ⟨u, hu, eu⟩ := hc y (List.mem_cons_of_mem _ hy)
      have := h1 y hy
      exact ⟨u, (List.mem_erase_of_ne (by omega)).mpr hu, eu⟩
    rw [List.length_erase_of_mem ht] at this
    have : 0 < ts.length := List.length_pos_of_mem ht
    rw [List.length_cons]
    omega
theorem cost_le {B B' : List Int} {e : Int} (hB' : Asc B') (h : ∀ x ∈ B', x ∈ B ∨ x = e ∨ x = e + 1) : costB B' ≤ costB B + 1 := by
  have key := few_toks (xs := pts B') (ts := pts B ++ [e]) (pts_gap hB') fun x hx => by
    rcases h x (pts_sub hx) with q | q
    · obtain ⟨t, ht, et⟩ := pts_cov q
      exact ⟨t, List.mem_append_left _ ht, et⟩
    · exact ⟨e, by simp, q⟩
  rw [List.length_append, List.length_singleton] at key
  have h1 := pts_len B'
  have h2 := pts_len B
  omega
/-! ### one step -/
section
variable {n : Int} {s : StT} {c : CkT}
def farOf (a i : Int) : Int := if a ≤ i then max a i + 1 else min a i
theorem step_click (h : Vs n s) (hc : Can n s c) (k : c.1 = ("click" : PySem.Str)) : (∀ x, x ∈ bords (nextS s c).2.1 ↔ ¬ (x ∈ bords s.2.1 ↔ (x = c.2 ∨ x = c.2 + 1))) := fun x => by
  have e : (nextS s c).2.1 = clickS s.2.1 c.2 := by unfold nextS; rw [if_pos k]
  rw [e]
  exact click_bords h.sel hc.1 hc.2.1
theorem step_range (h : Vs n s) (hc : Can n s c) (k : ¬ c.1 = ("click" : PySem.Str)) : ∃ a, s.2.2 = some a ∧ (0 ≤ a ∧ a < n) ∧
    (∀ x, x < min a c.2 ∨ max a c.2 + 1 < x → (x ∈ bords (nextS s c).2.1 ↔ x ∈ bords s.2.1)) ∧ (∀ x, min a c.2 < x → x < max a c.2 + 1 → x ∉ bords (nextS s c).2.1) ∧
    (∀ x, x ∈ bords (nextS s c).2.1 → x ∉ bords s.2.1 → x = farOf a c.2) := by
  obtain ⟨c0, c1, ck⟩ := hc
  obtain ⟨a, ea⟩ : ∃ a, s.2.2 = some a := by
    rcases ck with e | e
    · exact absurd e k
    · exact Option.isSome_iff_exists.mp e.2
  have ha := h.anc a ea
  have e : (nextS s c).2.1 = rangeS s.2.1 (min a c.2) (max a c.2) (inR s.2.1 a) := by unfold nextS; rw [if_neg k, ea]; rfl
  rw [e]
  have q0 : 0 ≤ min a c.2 := by omega
  have q1 : min a c.2 ≤ max a c.2 := by omega
  have q2 : max a c.2 < n := by omega
  refine ⟨a, ea, ha, fun x hx => range_out h.sel q0 q1 q2 hx, fun x h1 h2 => range_in h.sel q0 q1 q2 ⟨h1, by omega⟩, fun x h1 h2 => ?_⟩
  by_cases z : x < min a c.2 ∨ max a c.2 + 1 < x
  · exact absurd ((range_out h.sel q0 q1 q2 z).mp h1) h2
  · by_cases y : min a c.2 < x ∧ x ≤ max a c.2
    · exact absurd h1 (range_in h.sel q0 q1 q2 y)
    · unfold farOf
      by_cases ai : a ≤ c.2
      · rw [if_pos ai]
        have em : min a c.2 = a := by omega
        by_cases w : x = a
        · subst w
          have := range_low (m := inR s.2.1 x) h.sel q0 q1 q2 (by rw [em])
          rw [em] at this h1
          exact absurd (this.mp h1) h2
        · omega
      · rw [if_neg ai]
        have em : max a c.2 = a := by omega
        by_cases w : x = a + 1
        · subst w
          have := range_high (m := inR s.2.1 a) h.sel q0 q1 q2 (by rw [em])
          rw [em] at this h1
          exact absurd (this.mp h1) h2
        · omega
theorem step_cost (h : Vs n s) (hc : Can n s c) : costB (bords (nextS s c).2.1) ≤ costB (bords s.2.1) + 1 := by
  have asc := (next_valid h hc).sel.asc
  by_cases k : c.1 = ("click" : PySem.Str)
  · refine cost_le (e := c.2) asc fun x hx => ?_
    rw [step_click h hc k] at hx
    by_cases q : x ∈ bords s.2.1
    · exact .inl q
    · by_cases w : x = c.2 ∨ x = c.2 + 1
      · exact .inr w
      · exact absurd ⟨fun z => absurd z q, fun z => absurd z w⟩ hx
  · obtain ⟨a, ea, ha, h1, h2, h3⟩ := step_range h hc k
    refine cost_le (e := farOf a c.2) asc fun x hx => ?_
    by_cases q : x ∈ bords s.2.1
    · exact .inl q
    · exact .inr (.inl (h3 x hx q))
end
end Sx

/-! Numbers as texts, words put together, what is shown. No program in sight. -/
namespace Wd
open PySem PySem.Spec PyProof PyProof.Rows L2 Dx
/-! ### what is shown -/
theorem list_len : ∀ ts : List Str, (listText ts).length ≤ piled ts + 2
  | [] => by decide
  | t :: r => by
    have h := textFrom_length_pos r 1 (("[" : Str) ++ (if (0 : Nat) > 0 then ", " else "" : String) ++ t) (Nat.succ_pos 0)
    have e : ((("[" : Str) ++ (if (0 : Nat) > 0 then ", " else "" : String) ++ t)).length = 1 + t.length := by rw [strLen_append, strLen_append]; rfl
    have hX : (listText (t :: r)).length = (textFrom 1 (("[" : Str) ++ (if (0 : Nat) > 0 then ", " else "" : String) ++ t) r).length + 1 := by show (textFrom 0 "[" (t :: r) ++ "]").length = _; rw [strLen_append]; rfl
    rw [hX, h, e, piled_cons]; omega
theorem tup_len (ts : List Str) : (tupleText ts).length ≤ piled ts + 3 := by
  unfold tupleText
  rw [strLen_append, strLen_append]
  have e1 : ((("(" : String) : Str)).length = 1 := rfl
  have e3 : (((if ts.length == 1 then ",)" else ")" : String) : Str)).length ≤ 2 := by split <;> decide
  cases ts with
  | nil => have : (Str.join ", " []).length = 0 := rfl; rw [e1, this]; omega
  | cons t r => have := join_length_add (t :: r) (by simp); rw [e1]; omega
theorem piled_le {B : Nat} : ∀ {ts : List Str}, (∀ t ∈ ts, t.length ≤ B) → piled ts ≤ ts.length * (B + 2)
  | [], _ => Nat.zero_le _
  | t :: r, h => by
    have h1 := h t (List.mem_cons_self ..)
    have h2 := piled_le (ts := r) fun x hx => h x (List.mem_cons_of_mem _ hx)
    rw [piled_cons, List.length_cons, Nat.succ_mul]
    omega
theorem all_len (ds : List PyData) : (PyData.shownAll ds).length = ds.length := by
  induction ds with
  | nil => rfl
  | cons d ds ih => show (PyData.shownAll ds).length + 1 = _; rw [ih]; rfl
theorem all_mem {P : Str → Prop} : ∀ {ds : List PyData}, (∀ d ∈ ds, P d.shown) → ∀ t ∈ PyData.shownAll ds, P t
  | [], _, t, h => by cases h
  | d :: ds, hp, t, h => by
    have h' : t ∈ d.shown :: PyData.shownAll ds := h
    rcases List.mem_cons.mp h' with e | e
    · rw [e]; exact hp d (List.mem_cons_self ..)
    · exact all_mem (fun x hx => hp x (List.mem_cons_of_mem _ hx)) t e
theorem all_show : ∀ {ds : List PyData}, (∀ d ∈ ds, d.showable = true) → PyData.showableAll ds = true
  | [], _ => rfl
  | d :: ds, h => by
    show (d.showable && PyData.showableAll ds) = true
    rw [h d (List.mem_cons_self ..), all_show fun x hx => h x (List.mem_cons_of_mem _ hx)]; rfl
theorem log_lt {n k : Nat} (h : n < 2 ^ k) (hk : 0 < k) : n.log2 < k := by
  by_cases e : n = 0
  · subst e
    simpa using hk
  · exact (Nat.log2_lt e).mpr h
theorem log_num {v : Int} (h0 : 0 ≤ v) (h1 : v ≤ 1000000000000000000000000000000) : v.natAbs.log2 < 1920 := by
  have h1 : v.natAbs < 2 ^ 100 := by
    have e : ((2 ^ 100 : Nat) : Int) = (2 : Int) ^ 100 := by decide
    have : (1000000000000000000000000000000 : Int) < 2 ^ 100 := by decide
    omega
  have := log_lt h1 (by decide)
  omega
theorem int_show {v : Int} (h0 : 0 ≤ v) (h1 : v ≤ 1000000000000000000000000000000) : (PyData.int v).showable = true ∧ (PyData.int v).shown.length ≤ 1921 :=
  ⟨decide_eq_true (log_num h0 h1), int_text_len_1921 (log_num h0 h1)⟩
/-- two shown things, in a tuple -/
theorem tup2_show {a b : PyData} {B : Nat} (ha : a.showable = true ∧ a.shown.length ≤ B) (hb : b.showable = true ∧ b.shown.length ≤ B) : (PyData.tuple [a, b]).showable = true ∧ (PyData.tuple [a, b]).shown.length ≤ 2 * B + 7 := by
  refine ⟨all_show fun d hd => ?_, ?_⟩
  · simp at hd
    rcases hd with e | e <;> rw [e]
    · exact ha.1
    · exact hb.1
  · show (tupleText [a.shown, b.shown]).length ≤ _
    have := tup_len [a.shown, b.shown]
    rw [piled_cons, piled_cons, piled_nil] at this
    omega
theorem list_show {α : Type} {d : DF α} {l : List α} (h : ∀ x ∈ l, (d.toD x).showable = true ∧ (d.toD x).shown.length ≤ 4000) (hl : l.length ≤ 1000) : ShowOk (dfList d) l := by
  refine ⟨all_show fun e he => ?_, ?_⟩
  · obtain ⟨r, hr, e⟩ := List.mem_map.mp (show e ∈ l.map d.toD from he)
    rw [← e]; exact (h r hr).1
  · show (listText (PyData.shownAll (l.map d.toD))).length ≤ sizeLine
    have h1 := list_len (PyData.shownAll (l.map d.toD))
    have h2 := piled_le (B := 4000) (all_mem (P := fun t => t.length ≤ 4000) (ds := l.map d.toD) fun e he => by
      obtain ⟨r, hr, e⟩ := List.mem_map.mp he
      rw [← e]; exact (h r hr).2)
    rw [all_len, List.length_map] at h2
    have h3 : l.length * (4000 + 2) ≤ 1000 * 4002 := Nat.mul_le_mul_right _ hl
    have := sizeLine_eq
    omega
/-! ### numbers -/
abbrev num (v : Int) : Str := Str.ofString (toString v)
theorem num_tl {v : Int} (h0 : 0 ≤ v) : TL.tl (num v) = TL.numL v.toNat := by
  have : v = ((v.toNat : Nat) : Int) := (Int.toNat_of_nonneg h0).symm
  rw [show num v = Str.ofString (toString ((v.toNat : Nat) : Int)) by rw [← this]]
  exact TL.tl_num _
theorem num_len {v : Int} (h0 : 0 ≤ v) (h1 : v ≤ 1000000000000000000000000000000) : 1 ≤ (num v).length ∧ (num v).length ≤ 31 := by
  rw [TL.len_tl, num_tl h0]
  exact ⟨List.length_pos_iff.mpr (TL.numL_ne _), TL.numL_len (by decide) (Nat.lt_of_le_of_lt (show v.toNat ≤ 1000000000000000000000000000000 by omega) (by decide))⟩
theorem num_free {v : Int} {s : Nat} (h0 : 0 ≤ v) (h : s < 48 ∨ 57 < s) : s ∉ TL.tl (num v) := by
  rw [num_tl h0]
  exact TL.numL_free h
theorem numL_dig {n c : Nat} (h : c ∈ TL.numL n) : 48 ≤ c ∧ c ≤ 57 := by
  by_cases z : c < 48 ∨ 57 < c
  · exact absurd h (TL.numL_free z)
  · omega
theorem num_digits {v : Int} (h0 : 0 ≤ v) : ∀ c ∈ charsS (num v), (Dx.leS ("0" : Str) c && Dx.leS c ("9" : Str)) = true := fun c hc => by
  obtain ⟨d, hd, e⟩ := List.mem_map.mp hc
  rw [show (num v).cps.toList = TL.numL v.toNat from num_tl h0] at hd
  obtain ⟨h1, h2⟩ := numL_dig hd
  subst e
  unfold Dx.leS
  rw [Bool.and_eq_true]
  have e0 : (("0" : Str)).cps.toList = [48] := by decide
  have e9 : (("9" : Str)).cps.toList = [57] := by decide
  rw [e0, e9]
  have n1 : ¬ ([d] < [48]) := fun h => by
    rcases List.cons_lt_cons_iff.mp h with h | h
    · omega
    · exact absurd h.2 (by simp)
  have n2 : ¬ ([57] < [d]) := fun h => by
    rcases List.cons_lt_cons_iff.mp h with h | h
    · omega
    · exact absurd h.2 (by simp)
  constructor
  · show (!decide ([d] < [48])) = true
    rw [decide_eq_false n1]; rfl
  · show (!decide ([57] < [d])) = true
    rw [decide_eq_false n2]; rfl
theorem numL_head : ∀ (n : Nat), 0 < n → ∃ c r, TL.numL n = c :: r ∧ c ≠ 48 := by
  intro n
  induction n using Nat.strongRecOn with
  | ind n ih =>
    intro hn
    by_cases h : n < 10
    · exact ⟨48 + n, [], TL.numL_lt h, by omega⟩
    · obtain ⟨c, r, e, hc⟩ := ih (n / 10) (by omega) (by omega)
      exact ⟨c, r ++ [48 + n % 10], by rw [TL.numL_step (by omega), e]; rfl, hc⟩
theorem num_head {v : Int} (h0 : 0 ≤ v) : ((dfStr).eq (chS (num v) (0 : Int)) ("0" : Str) && (!(dfStr).eq (num v) ("0" : Str))) = false := by
  by_cases z : v = 0
  · subst z
    have e : num 0 = ("0" : Str) := by decide
    rw [e]
    have : (dfStr).eq ("0" : Str) ("0" : Str) = true := decide_eq_true rfl
    rw [this]
    cases (dfStr).eq (chS ("0" : Str) (0 : Int)) ("0" : Str) <;> rfl
  · obtain ⟨c, r, e, hc⟩ := numL_head v.toNat (by omega)
    rw [← num_tl h0] at e
    have e1 : chS (num v) (0 : Int) = ⟨#[c]⟩ := by
      unfold chS charsS
      rw [show (num v).cps.toList = c :: r from e]
      rfl
    have e2 : (dfStr).eq (chS (num v) (0 : Int)) ("0" : Str) = false := by
      refine decide_eq_false fun h => hc ?_
      rw [e1] at h
      have := congrArg TL.tl h
      have e0 : TL.tl ("0" : Str) = [48] := by decide
      rw [e0] at this
      injection this
    rw [e2]; rfl
theorem num_ix {v : Int} (h0 : 0 ≤ v) (h1 : v ≤ 1000000000000000000000000000000) : IxOk (charsS (num v)) (0 : Int) := by
  have := (num_len h0 h1).1
  have e := charsS_len (num v)
  exact ⟨by omega, by omega⟩
theorem num_int {v : Int} (h0 : 0 ≤ v) (h1 : v ≤ 1000000000000000000000000000000) : PySem.intText? (num v) = some v := by
  have hv : v = ((v.toNat : Nat) : Int) := (Int.toNat_of_nonneg h0).symm
  have hl := (num_len h0 h1).2
  rw [TL.len_tl, num_tl h0] at hl
  have := TL.int_num (n := v.toNat) (by omega)
  rw [← hv] at this
  exact this
theorem num_intOf {v : Int} (h0 : 0 ≤ v) (h1 : v ≤ 1000000000000000000000000000000) : intOf (num v) = v := by unfold intOf; rw [num_int h0 h1]; rfl
/-! ### heads -/
theorem starts_iff {x : Str} {s : Nat} : Txt.startswith x ⟨#[s]⟩ = true ↔ ∃ r, TL.tl x = s :: r := by
  unfold Txt.startswith
  rw [Bool.and_eq_true, PySem.StrLaws.subAt_eq]
  have hl := TL.len_tl x
  have e1 : ((⟨#[s]⟩ : Str)).length = 1 := rfl
  have e2 : ((⟨#[s]⟩ : Str)).cps.toList = [s] := rfl
  rw [e1, e2, decide_eq_true_eq]
  show _ ∧ (((TL.tl x).drop 0).take 1 == [s]) = true ↔ _
  rw [List.drop_zero, beq_iff_eq]
  generalize TL.tl x = l at hl
  cases l with
  | nil => simp
  | cons c r =>
    constructor
    · rintro ⟨_, h⟩
      have h' : [c] = [s] := h
      injection h' with h'
      exact ⟨r, by rw [h']⟩
    · rintro ⟨r', h⟩
      injection h with h1 h2
      rw [h1]
      exact ⟨by rw [hl, List.length_cons]; omega, rfl⟩
theorem starts_app (s : Nat) (x : Str) : Txt.startswith ((⟨#[s]⟩ : Str) ++ x) ⟨#[s]⟩ = true := starts_iff.mpr ⟨TL.tl x, by rw [TL.tl_append]; rfl⟩
theorem starts_num {v : Int} {s : Nat} (h0 : 0 ≤ v) (h : s < 48 ∨ 57 < s) : Txt.startswith (num v) ⟨#[s]⟩ = false := by
  cases e : Txt.startswith (num v) ⟨#[s]⟩ with
  | false => rfl
  | true =>
    obtain ⟨r, e⟩ := starts_iff.mp e
    exact absurd (by rw [e]; exact List.mem_cons_self ..) (num_free h0 h)
theorem cut_app (s : Nat) (x : Str) : cutT ((⟨#[s]⟩ : Str) ++ x) (some (1 : Int)) none = x := by
  apply TL.ext_tl
  show ((TL.tl ((⟨#[s]⟩ : Str) ++ x)).drop (HT.sIx ((⟨#[s]⟩ : Str) ++ x).length 0 (some ((1 : Nat) : Int)))).take (HT.sIx ((⟨#[s]⟩ : Str) ++ x).length ((⟨#[s]⟩ : Str) ++ x).length none - HT.sIx ((⟨#[s]⟩ : Str) ++ x).length 0 (some ((1 : Nat) : Int))) = _
  have hl : ((⟨#[s]⟩ : Str) ++ x).length = x.length + 1 := by rw [strLen_append]; show 1 + _ = _; omega
  rw [HT.sIx_nat, HT.sIx_none, hl, TL.tl_append, show min 1 (x.length + 1) = 1 by omega]
  show (TL.tl x).take (x.length + 1 - 1) = _
  rw [TL.len_tl]
  exact List.take_of_length_le (by omega)
/-! ### words put together -/
theorem join_len {y : Str} {B : Nat} : ∀ {ps : List Str}, (∀ p ∈ ps, p.length ≤ B) → (Txt.join y ps).length ≤ ps.length * (B + y.length)
  | [], _ => by rw [TL.join_eq]; exact Nat.zero_le _
  | [p], h => by
    rw [TL.join_eq]
    show p.length ≤ _
    have := h p (List.mem_cons_self ..)
    simp
    omega
  | p :: q :: r, h => by
    have h1 := h p (List.mem_cons_self ..)
    have h2 := join_len (y := y) (ps := q :: r) fun x hx => h x (List.mem_cons_of_mem _ hx)
    rw [TL.join_eq] at h2 ⊢
    show (p ++ y ++ Str.join y (q :: r)).length ≤ _
    rw [strLen_append, strLen_append, List.length_cons, Nat.succ_mul]
    omega
theorem sum_len {B : Nat} : ∀ {ps : List Str}, (∀ p ∈ ps, p.length ≤ B) → (ps.map (·.length)).sum ≤ ps.length * B
  | [], _ => Nat.zero_le _
  | p :: r, h => by
    have h1 := h p (List.mem_cons_self ..)
    have h2 := sum_len (ps := r) fun x hx => h x (List.mem_cons_of_mem _ hx)
    rw [List.map_cons, List.sum_cons, List.length_cons, Nat.succ_mul]
    omega
theorem join_nil (y : Str) : Txt.join y [] = Str.empty := by rw [TL.join_eq]; rfl
theorem join_ne {y : Str} {ps : List Str} (h : ps ≠ []) (hp : ∀ p ∈ ps, 1 ≤ p.length) : Txt.join y ps ≠ Str.empty := by
  intro e
  rw [TL.join_eq] at e
  have e2 : (Str.join y ps).length = 0 := by rw [e]; rfl
  match ps, h with
  | [p], _ =>
    have : p.length = 0 := e2
    have := hp p (List.mem_cons_self ..)
    omega
  | p :: q :: r, _ =>
    have e3 : (p ++ y ++ Str.join y (q :: r)).length = 0 := e2
    rw [strLen_append, strLen_append] at e3
    have := hp p (List.mem_cons_self ..)
    omega
theorem free_app {x y : Str} {s : Nat} (hx : s ∉ TL.tl x) (hy : s ∉ TL.tl y) : s ∉ TL.tl (x ++ y) := by
  rw [TL.tl_append]
  intro h
  rcases List.mem_append.mp h with h | h
  · exact hx h
  · exact hy h
/-- split of what was joined with one sign -/
theorem back {s : Nat} (hs : s < 256) {ps : List Str} (hne : ps ≠ []) (hp : ∀ p ∈ ps, s ∉ TL.tl p) : Txt.split (Txt.join (⟨#[s]⟩ : Str) ps) ⟨#[s]⟩ = ps :=
  TL.split_join (y := ⟨#[s]⟩) (S := []) rfl (by simp [hs]) hne hp
end Wd

namespace Lw
open PySem PySem.Spec PyProof PyProof.Rows L2 Dx
section
theorem lcV_t {α β : Type} (xs : List α) (f : α → β) : lcV xs (fun _ => true) f = xs.map f := by
  unfold lcV
  rw [List.filter_eq_self.mpr fun _ _ => rfl]
end
section

theorem small_log {z : Int} (h0 : 0 ≤ z) (h : z ≤ 1000000000000000000000000000000) : z.natAbs.log2 < 9000 := wide_ok (n := 0) h h0
theorem len4 {α : Type} {l : List α} {i : Int} {n : Nat} (hl : l.length = n) (h0 : 0 ≤ i) (h1 : i < n) : IxOk l i := by
  unfold IxOk
  rw [hl]
  omega
end
section
theorem cut_one {α : Type} (xs : List α) : cutL xs (some 1) none = xs.drop 1 := by
  unfold cutL
  rw [show HT.sIx xs.length 0 (some 1) = min 1 xs.length from HT.sIx_nat xs.length 0 1, HT.sIx_none]
  cases xs with
  | nil => rfl
  | cons x r =>
    rw [show min 1 (x :: r).length = 1 by simp]
    exact List.take_of_length_le (by simp)
theorem isint {v lo hi : Int} : mis_integer (v, lo, hi, ()) = true ↔ lo ≤ v ∧ v ≤ hi := by
  unfold mis_integer
  rw [hide_eq]
  show (true && ((!false) && (decide (lo ≤ v) && decide (v ≤ hi)))) = true ↔ _
  simp
theorem isrun {z : Int} {r : Int × Int} (h : 0 ≤ r.1 ∧ r.1 ≤ r.2 ∧ r.2 < z) : mis_run_p (z, r, ()) ∧ mis_run (z, r, ()) = true := by
  have h1 : mis_run_c1 (z, r, ()) = true := isint.mpr ⟨h.1, by show r.1 ≤ z - 1; omega⟩
  have h2 : mis_run_c2 (z, r, ()) = true := isint.mpr ⟨h.2.1, by show r.2 ≤ z - 1; omega⟩
  refine ⟨⟨fun _ _ => trivial, ?_, trivial⟩, ?_⟩
  · show if _ then _ else _
    split
    · trivial
    · exact ⟨trivial, trivial⟩
  · unfold mis_run
    rw [hide_eq, h1, h2]
    rfl
theorem zip_next {α : Type} {R : α → α → Prop} : ∀ {l : List α}, l.Pairwise R → ∀ p ∈ List.zip l (l.drop 1), R p.1 p.2
  | [], _, p, h => by simp at h
  | [x], _, p, h => by simp at h
  | x :: y :: r, hp, p, h => by
    obtain ⟨h1, h2⟩ := List.pairwise_cons.mp hp
    have h' : p ∈ (x, y) :: List.zip (y :: r) ((y :: r).drop 1) := h
    rcases List.mem_cons.mp h' with e | e
    · rw [e]; exact h1 y (List.mem_cons_self ..)
    · exact zip_next h2 p e
theorem areruns {z : Int} {l : List (Int × Int)} (h : Sel z l) : mare_runs_p (z, l, ()) ∧ mare_runs (z, l, ()) = true := by
  refine ⟨⟨fun _ r hr => ⟨trivial, fun _ => ⟨(isrun (h.1 r hr)).1, trivial⟩⟩, ?_, trivial⟩, ?_⟩
  · show if _ then _ else _
    split
    · trivial
    · exact ⟨fun _ _ => ⟨trivial, fun _ => trivial⟩, trivial⟩
  · unfold mare_runs
    rw [hide_eq]
    have h1 : (lcV l (fun x => true) fun x => mare_runs_c1 ((z, l, ()), x)).all id = true := by
      rw [lcV_t]
      simp only [List.all_map, List.all_eq_true]
      exact fun r hr => (isrun (h.1 r hr)).2
    have h2 : (lcV (List.zip l (cutL l (some 1) none)) (fun x => true) fun x => decide (x.1.2 + 1 < x.2.1)).all id = true := by
      rw [lcV_t, cut_one]
      simp only [List.all_map, List.all_eq_true]
      exact fun p hp => decide_eq_true (zip_next h.2 p hp)
    show (if ((!true) || !((lcV l (fun x => true) fun x => mare_runs_c1 ((z, l, ()), x)).all id)) = true then false else (lcV (List.zip l (cutL l (some 1) none)) (fun x => true) fun x => decide (x.1.2 + 1 < x.2.1)).all id) = true
    rw [h1, h2]
    rfl
theorem chk_sel {z : Int} {l : List (Int × Int)} (h : Sel z l) : mcheck_selection_p (z, l, ()) := by
  have e2 : mcheck_selection_c1 (z, l, ()) = true := (areruns h).2
  refine ⟨(areruns h).1, fun q => ?_, trivial⟩
  rw [e2] at q; exact absurd q (by decide)
theorem bord_loop {s : mborders_in_S} : ∀ (l : List (Int × Int)) (m : List Int), m.length + 2 * l.length ≤ 100000 → loopC (fun m x => mborders_in_L2c ((s, m), x)) (fun m x => mborders_in_L2s ((s, m), x)) l m ∧ loopF (fun m x => mborders_in_L2s ((s, m), x)) l m = m ++ Sx.bords l
  | [], m, _ => ⟨trivial, by simp [loopF, Sx.bords]⟩
  | r :: l, m, h => by
    have e : mborders_in_L2s ((s, m), r) = m ++ [r.1, r.2 + 1] := rfl
    simp only [List.length_cons] at h
    obtain ⟨h1, h2⟩ := bord_loop (s := s) l (m ++ [r.1, r.2 + 1]) (by simp; omega)
    refine ⟨⟨⟨?_, trivial⟩, h1⟩, ?_⟩
    · show m.length + 2 ≤ sizeLine
      have := line_big
      omega
    · show loopF (fun m x => mborders_in_L2s ((s, m), x)) l (mborders_in_L2s ((s, m), r)) = _
      rw [e, h2]
      simp [Sx.bords]
theorem bord_ok {l : List (Int × Int)} (h : l.length ≤ 1000) : mborders_in_p (l, ()) ∧ mborders_in (l, ()) = Sx.bords l := by
  obtain ⟨h1, h2⟩ := bord_loop (s := (l, ())) l [] (by simp; omega)
  refine ⟨⟨h1, trivial⟩, ?_⟩
  unfold mborders_in
  rw [hide_eq]
  unfold mborders_in_L2
  rw [LoopF_eq]
  exact h2
theorem chk_items {z : Int} (hz : 1 ≤ z) (hz2 : z ≤ 1000000000000000000000000000000) : mcheck_items_p (z, ()) := by
  have e1 : mcheck_items_c1 (z, ()) = true := isint.mpr ⟨hz, hz2⟩
  refine ⟨trivial, fun q => ?_, trivial⟩
  rw [e1] at q; exact absurd q (by decide)
theorem bof_ok {z : Int} {l : List (Int × Int)} (h : Sel z l) (hz : 1 ≤ z) (hz2 : z ≤ 1000000000000000000000000000000) (hl : l.length ≤ 1000) : mborders_of_p (z, l, ()) ∧ mborders_of (z, l, ()) = Sx.bords l := by
  refine ⟨⟨chk_items hz hz2, chk_sel h, (bord_ok hl).1, trivial⟩, ?_⟩
  unfold mborders_of
  rw [hide_eq]
  exact (bord_ok hl).2
theorem blk_step {s : mblocks_in_S} {m : List (Int × Int)} {b : Int} : mblocks_in_L2s ((s, m), b) = Sx.blk1 m b := by
  show (if mblocks_in_h5 ((s, m), b) = true then mblocks_in_v_blocks_3 ((s, m), b) else mblocks_in_v_blocks_4 ((s, m), b)) = _
  rcases Sx.snoc_cases m with e | ⟨m0, r, e⟩
  · subst e; rfl
  · subst e
    rw [Sx.blk1_snoc]
    have hne : (dfList (dfT2 dfInt dfInt)).eq (m0 ++ [r]) ([] : List (Int × Int)) = false := df_f.mpr (by simp)
    have e5 : mblocks_in_h5 ((s, m0 ++ [r]), b) = (dfInt).eq (r.2 + 1) b := by
      show ((!(dfList (dfT2 dfInt dfInt)).eq (m0 ++ [r]) ([] : List (Int × Int))) && (dfInt).eq ((ixI ((0 : Int), (0 : Int)) (m0 ++ [r]) (-1)).2 + 1) b) = _
      rw [hne, ix_last]; rfl
    have e3 : mblocks_in_v_blocks_3 ((s, m0 ++ [r]), b) = m0 ++ [(r.1, b)] := by
      show setI (m0 ++ [r]) (-1) ((ixI ((0 : Int), (0 : Int)) (m0 ++ [r]) (-1)).1, b) = _
      rw [ix_last, set_last]
    rw [e5, e3]
    by_cases c : r.2 + 1 = b
    · rw [if_pos (df_t.mpr c), if_pos c]
    · rw [if_neg (by rw [df_f.mpr c]; decide), if_neg c]; rfl
theorem blk_loop {s : mblocks_in_S} : ∀ (bs : List Int) (m : List (Int × Int)), m.length + bs.length ≤ 100000 → loopC (fun m x => mblocks_in_L2c ((s, m), x)) (fun m x => mblocks_in_L2s ((s, m), x)) bs m ∧ loopF (fun m x => mblocks_in_L2s ((s, m), x)) bs m = bs.foldl Sx.blk1 m
  | [], m, _ => ⟨trivial, rfl⟩
  | b :: bs, m, h => by
    simp only [List.length_cons] at h
    have hl := Sx.blk1_len m b
    obtain ⟨h1, h2⟩ := blk_loop (s := s) bs (Sx.blk1 m b) (by omega)
    have ne : (!(dfList (dfT2 dfInt dfInt)).eq m ([] : List (Int × Int))) = true → IxOk m (-1) := fun q => by
      refine ixOk_last fun e => ?_
      rw [df_t.mpr e] at q; exact absurd q (by decide)
    have ne5 : mblocks_in_h5 ((s, m), b) = true → IxOk m (-1) := fun q => ne (by
      have q' : ((!(dfList (dfT2 dfInt dfInt)).eq m ([] : List (Int × Int))) && (dfInt).eq ((ixI ((0 : Int), (0 : Int)) m (-1)).2 + 1) b) = true := q
      exact (Bool.and_eq_true_iff.mp q').1)
    refine ⟨⟨⟨ne, ne5, ne5, fun _ => ?_, trivial⟩, ?_⟩, ?_⟩
    · show m.length < sizeLine
      have := line_big
      omega
    · show loopC (fun m x => mblocks_in_L2c ((s, m), x)) (fun m x => mblocks_in_L2s ((s, m), x)) bs (mblocks_in_L2s ((s, m), b))
      rw [blk_step]; exact h1
    · show loopF (fun m x => mblocks_in_L2s ((s, m), x)) bs (mblocks_in_L2s ((s, m), b)) = _
      rw [blk_step, h2]; rfl
theorem blk_ok {bs : List Int} (h : bs.length ≤ 10000) : mblocks_in_p (bs, ()) ∧ mblocks_in (bs, ()) = Sx.blks bs := by
  obtain ⟨h1, h2⟩ := blk_loop (s := (bs, ())) bs [] (by simp; omega)
  refine ⟨⟨h1, trivial⟩, ?_⟩
  unfold mblocks_in
  rw [hide_eq]
  unfold mblocks_in_L2
  rw [LoopF_eq]
  exact h2
theorem blof_ok {z : Int} {l : List (Int × Int)} (h : Sel z l) (hz : 1 ≤ z) (hz2 : z ≤ 1000000000000000000000000000000) (hl : l.length ≤ 1000) : mblocks_of_p (z, l, ()) ∧ mblocks_of (z, l, ()) = Sx.blks (Sx.bords l) := by
  have e : mblocks_of_c3 (z, l, ()) = Sx.bords l := (bord_ok hl).2
  have hb := blk_ok (bs := Sx.bords l) (by rw [Sx.bords_len]; omega)
  refine ⟨⟨chk_items hz hz2, chk_sel h, (bord_ok hl).1, ?_, trivial⟩, ?_⟩
  · show mblocks_in_p (mblocks_of_c3 (z, l, ()), ())
    rw [e]; exact hb.1
  · unfold mblocks_of
    rw [hide_eq]
    show mblocks_in (mblocks_of_c3 (z, l, ()), ()) = _
    rw [e]; exact hb.2
theorem cost_ok {z : Int} {l : List (Int × Int)} (h : Sel z l) (hz : 1 ≤ z) (hz2 : z ≤ 1000000000000000000000000000000) (hl : l.length ≤ 1000) : mcost_p (z, l, ()) ∧ mcost (z, l, ()) = Sx.costB (Sx.bords l) := by
  obtain ⟨b1, b2⟩ := bord_ok hl
  obtain ⟨k1, k2⟩ := blk_ok (bs := Sx.bords l) (by rw [Sx.bords_len]; omega)
  have e1 : mcost_of_c1 (l, ()) = Sx.bords l := b2
  have ec : mcost_of_borders_p (Sx.bords l, ()) ∧ mcost_of_borders (Sx.bords l, ()) = Sx.costB (Sx.bords l) := by
    refine ⟨⟨k1, fun x _ => ⟨trivial, fun _ => ⟨⟨by decide, by decide⟩, trivial⟩⟩, trivial⟩, ?_⟩
    unfold mcost_of_borders
    rw [hide_eq, lcV_t]
    show ((mblocks_in (Sx.bords l, ())).map fun r => (r.2 - r.1 + 2) / 2).sum = _
    rw [k2]
    rfl
  have eo : mcost_of_p (l, ()) ∧ mcost_of (l, ()) = Sx.costB (Sx.bords l) := by
    refine ⟨⟨b1, ?_, trivial⟩, ?_⟩
    · show mcost_of_borders_p (mcost_of_c1 (l, ()), ())
      rw [e1]; exact ec.1
    · unfold mcost_of
      rw [hide_eq]
      show mcost_of_borders (mcost_of_c1 (l, ()), ()) = _
      rw [e1]; exact ec.2
  refine ⟨⟨chk_items hz hz2, chk_sel h, eo.1, trivial⟩, ?_⟩
  unfold mcost
  rw [hide_eq]
  exact eo.2
theorem from_ok (bs : List Int) : mfrom_borders_p (bs, ()) ∧ mfrom_borders (bs, ()) = Sx.fromB bs := by
  refine ⟨⟨fun _ _ => ⟨trivial, fun _ => trivial⟩, trivial⟩, ?_⟩
  unfold mfrom_borders
  rw [hide_eq, lcV_t, Sx.step2a, Sx.step2b]
  exact Sx.fromB_zip bs
theorem diff_ok {z : Int} {k l : List (Int × Int)} (hk : Sel z k) (hl : Sel z l) (hz : 1 ≤ z) (hz2 : z ≤ 1000000000000000000000000000000) (lk : k.length ≤ 1000) (ll : l.length ≤ 1000) : mdifference_p (z, k, l, ()) ∧ mdifference (z, k, l, ()) = Sx.diffS k l := by
  have e4 : mdifference_c4 (z, k, l, ()) = Sx.bords k := (bord_ok lk).2
  have e5 : mdifference_c5 (z, k, l, ()) = Sx.bords l := (bord_ok ll).2
  have e6 : mdifference_v_borders_6 (z, k, l, ()) = sortI (Sx.bords k ++ Sx.bords l) := by
    unfold mdifference_v_borders_6
    rw [e4, e5]
  refine ⟨⟨chk_items hz hz2, chk_sel hk, chk_sel hl, (bord_ok lk).1, (bord_ok ll).1, ?_, fun _ _ => ⟨trivial, fun _ => trivial⟩, (from_ok _).1, trivial⟩, ?_⟩
  · show (mdifference_c4 (z, k, l, ())).length + (mdifference_c5 (z, k, l, ())).length ≤ sizeLine
    rw [e4, e5, Sx.bords_len, Sx.bords_len]
    have := line_big
    omega
  · unfold mdifference
    rw [hide_eq]
    unfold mdifference_c7
    rw [(from_ok _).2]
    unfold Sx.diffS
    congr 1
    show (lcV (mdifference_v_borders_6 (z, k, l, ())) (fun x => dfInt.eq ((mdifference_v_borders_6 (z, k, l, ())).count x : Int) 1) fun x => x) = _
    rw [e6]
    unfold lcV Sx.diffB
    rw [List.map_id']
    rfl
end
section
open Sx (Sel Upto)

theorem loop_end {M α R : Type} {step : M → α → M} {c : M → α → Prop} {r : M → α → Option R} (I : Nat → M → Prop) (xs : List α) (k : Nat) (m : M) (h : I k m) (hs : ∀ j m x, j < k + xs.length → x ∈ xs → I j m → c m x ∧ r m x = none ∧ I (j + 1) (step m x)) : loopCr c r step xs m ∧ loopR r step xs m = none ∧ I (k + xs.length) (loopF step xs m) := by
  obtain ⟨a, b⟩ := loop_none I xs k m h hs
  exact ⟨a, b, (loop_inv (c := c) I xs k m h fun j m x _ hj hx hi => ⟨(hs j m x hj hx hi).1, (hs j m x hj hx hi).2.2⟩).2⟩
end
end Lw

/-! costs of related selections -/
namespace Sx
open PySem PySem.Spec PyProof PyProof.Rows L2 Dx
theorem cost_two {A B D : List Int} (hD : Asc D) (h : ∀ x ∈ D, x ∈ A ∨ x ∈ B) : costB D ≤ costB A + costB B := by
  have key := few_toks (xs := pts D) (ts := pts A ++ pts B) (pts_gap hD) fun x hx => by
    rcases h x (pts_sub hx) with q | q
    · obtain ⟨t, ht, et⟩ := pts_cov q
      exact ⟨t, List.mem_append_left _ ht, et⟩
    · obtain ⟨t, ht, et⟩ := pts_cov q
      exact ⟨t, List.mem_append_right _ ht, et⟩
  rw [List.length_append] at key
  have h1 := pts_len A
  have h2 := pts_len B
  have h3 := pts_len D
  omega
theorem cover_len : ∀ {m : List (Int × Int)}, (∀ r ∈ m, r.1 ≤ r.2) → ((cover m).length : Int) = (m.map fun r => r.2 - r.1 + 1).sum
  | [], _ => rfl
  | r :: m, h => by
    have h1 := h r (by simp)
    have ih := cover_len (m := m) fun s hs => h s (List.mem_cons_of_mem _ hs)
    unfold cover at ih ⊢
    rw [List.flatMap_cons, List.length_append, List.map_cons, List.sum_cons, ← ih]
    have e : ((rangeL2 r.1 (r.2 + 1)).length : Int) = r.2 - r.1 + 1 := by
      unfold rangeL2
      rw [List.length_map, List.length_range]
      omega
    omega
theorem sum_le {m : List (Int × Int)} {f g : Int × Int → Int} (h : ∀ r ∈ m, f r ≤ g r) : (m.map f).sum ≤ (m.map g).sum := by
  induction m with
  | nil => exact Int.le_refl _
  | cons r m ih =>
    have h1 := h r (by simp)
    have h2 := ih fun s hs => h s (List.mem_cons_of_mem _ hs)
    rw [List.map_cons, List.map_cons, List.sum_cons, List.sum_cons]
    omega
theorem sum_mul {m : List (Int × Int)} {f : Int × Int → Int} : (m.map fun r => 2 * f r).sum = 2 * (m.map f).sum := by
  induction m with
  | nil => rfl
  | cons r m ih =>
    rw [List.map_cons, List.map_cons, List.sum_cons, List.sum_cons, ih]
    omega
theorem sum_one (m : List (Int × Int)) : (m.map fun _ => (1 : Int)).sum = (m.length : Int) := by
  induction m with
  | nil => rfl
  | cons r m ih =>
    rw [List.map_cons, List.sum_cons, ih, List.length_cons]
    omega
theorem cost_bounds (bs : List Int) : (bs.length : Int) ≤ 2 * costB bs ∧ costB bs ≤ bs.length ∧ ((blks bs).length : Int) ≤ costB bs := by
  have hl := blks_le bs
  have c := cover_len hl
  rw [cover_blks] at c
  refine ⟨?_, ?_, ?_⟩
  · rw [c]
    unfold costB
    rw [← sum_mul]
    exact sum_le fun r hr => by have := hl r hr; omega
  · rw [c]
    unfold costB
    exact sum_le fun r hr => by have := hl r hr; omega
  · rw [← sum_one]
    unfold costB
    exact sum_le fun r hr => by have := hl r hr; omega
/-! ### borders that lie apart -/
theorem blk1_app {m0 m : List (Int × Int)} {b : Int} (h : ∀ r ∈ m0, r.2 + 1 ≠ b) : blk1 (m0 ++ m) b = m0 ++ blk1 m b := by
  rcases snoc_cases m with rfl | ⟨m1, r, rfl⟩
  · rw [List.append_nil]
    rcases snoc_cases m0 with rfl | ⟨m1, r, rfl⟩
    · rfl
    · rw [blk1_snoc, if_neg (h r (by simp))]
      rfl
  · rw [← List.append_assoc, blk1_snoc, blk1_snoc]
    split
    · rw [List.append_assoc]
    · rw [List.append_assoc, List.append_assoc, List.append_assoc]
theorem foldl_app : ∀ (B : List Int) (m0 m : List (Int × Int)), (∀ r ∈ m0, ∀ b ∈ B, r.2 + 1 ≠ b) → B.foldl blk1 (m0 ++ m) = m0 ++ B.foldl blk1 m
  | [], _, _, _ => rfl
  | b :: B, m0, m, h => by
    show B.foldl blk1 (blk1 (m0 ++ m) b) = m0 ++ B.foldl blk1 (blk1 m b)
    rw [blk1_app fun r hr => h r hr b (by simp)]
    exact foldl_app B m0 _ fun r hr c hc => h r hr c (List.mem_cons_of_mem _ hc)
theorem cost_app {A B : List Int} (h : ∀ a ∈ A, ∀ b ∈ B, a + 1 ≠ b) : costB (A ++ B) = costB A + costB B := by
  have e : blks (A ++ B) = blks A ++ blks B := by
    unfold blks
    rw [List.foldl_append]
    have := foldl_app B (A.foldl blk1 []) [] fun r hr b hb => h r.2 (blks_mem r hr).2 b hb
    rw [List.append_nil] at this
    exact this
  unfold costB
  rw [e, List.map_append, List.sum_append]
theorem cost_mov (c : Int) (bs : List Int) : costB (bs.map fun b => b + c) = costB bs := by
  unfold costB
  rw [blks_mov]
  unfold mov
  rw [List.map_map]
  congr 1
  refine List.map_congr_left fun r _ => ?_
  show (r.2 + c - (r.1 + c) + 2) / 2 = _
  congr 1
  omega
theorem cost_apart : ∀ (bs : List Int) (m : List (Int × Int)), (bs.Pairwise fun a b => a + 1 < b) → (∀ r ∈ m, ∀ b ∈ bs, r.2 + 1 < b) → bs.foldl blk1 m = m ++ bs.map fun b => (b, b)
  | [], m, _, _ => by simp
  | b :: bs, m, h, k => by
    obtain ⟨h1, h2⟩ := List.pairwise_cons.mp h
    have e : blk1 m b = m ++ [(b, b)] := by
      have := blk1_app (m0 := m) (m := []) (b := b) fun r hr => by have := k r hr b (by simp); omega
      rw [List.append_nil] at this
      exact this
    show bs.foldl blk1 (blk1 m b) = _
    rw [e, cost_apart bs _ h2 fun r hr c hc => ?_, List.append_assoc]
    · rfl
    · rcases List.mem_append.mp hr with hr | hr
      · exact k r hr c (List.mem_cons_of_mem _ hc)
      · rw [List.mem_singleton.mp hr]
        exact h1 c hc
theorem cost_double {bs : List Int} (h : Asc bs) : costB (bs.map fun b => 2 * b) = bs.length := by
  unfold costB blks
  rw [cost_apart _ [] (List.pairwise_map.mpr (h.imp fun {a b} hab => by omega)) (fun _ h => (nomatch h)), List.nil_append, List.map_map, List.map_map]
  have : ∀ l : List Int, (l.map ((fun r : Int × Int => (r.2 - r.1 + 2) / 2) ∘ (fun b : Int => (b, b)) ∘ fun b => 2 * b)).sum = (l.length : Int) := fun l => by
    induction l with
    | nil => rfl
    | cons b l ih =>
      rw [List.map_cons, List.sum_cons, ih, List.length_cons]
      show (2 * b - 2 * b + 2) / 2 + (l.length : Int) = _
      omega
  exact this bs
def dbl (l : List (Int × Int)) : List (Int × Int) := l.map fun x => (2 * x.1, 2 * x.2 + 1)
theorem bords_dbl : ∀ l : List (Int × Int), bords (dbl l) = (bords l).map fun b => 2 * b
  | [] => rfl
  | r :: l => by
    show (2 * r.1) :: (2 * r.2 + 1 + 1) :: bords (dbl l) = (2 * r.1) :: (2 * (r.2 + 1)) :: (bords l).map fun b => 2 * b
    rw [bords_dbl l, show 2 * r.2 + 1 + 1 = 2 * (r.2 + 1) by omega]
section
variable {n : Int} {k l : List (Int × Int)}
theorem sel_dbl (h : Sel n l) : Sel (2 * n) (dbl l) := ⟨fun r hr => by
    obtain ⟨q, hq, rfl⟩ := List.mem_map.mp hr
    have := h.1 q hq
    exact ⟨by show 0 ≤ 2 * q.1; omega, by show 2 * q.1 ≤ 2 * q.2 + 1; omega, by show 2 * q.2 + 1 < 2 * n; omega⟩,
  List.pairwise_map.mpr (h.2.imp fun {a b} hab => by show 2 * a.2 + 1 + 1 < 2 * b.1; omega)⟩
theorem sel_far (hk : Sel n k) (hl : Sel n l) (n0 : 0 ≤ n) : Sel (2 * n + 2) (k ++ mov (n + 2) l) := ⟨fun r hr => by
    rcases List.mem_append.mp hr with hr | hr
    · have := hk.1 r hr; omega
    · obtain ⟨q, hq, rfl⟩ := List.mem_map.mp hr
      have := hl.1 q hq
      exact ⟨by show 0 ≤ q.1 + (n + 2); omega, by show q.1 + (n + 2) ≤ q.2 + (n + 2); omega, by show q.2 + (n + 2) < 2 * n + 2; omega⟩,
  List.pairwise_append.mpr ⟨hk.2, List.pairwise_map.mpr (hl.2.imp fun {a b} hab => by show a.2 + (n + 2) + 1 < b.1 + (n + 2); omega), fun a ha b hb => by
    obtain ⟨q, hq, rfl⟩ := List.mem_map.mp hb
    have := hk.1 a ha
    have := hl.1 q hq
    show a.2 + 1 < q.1 + (n + 2)
    omega⟩⟩
theorem cost_far (hk : Sel n k) (hl : Sel n l) : costB (bords (k ++ mov (n + 2) l)) = costB (bords k) + costB (bords l) := by
  rw [bords_app, bords_mov, cost_app, cost_mov]
  intro a ha b hb
  obtain ⟨c, hc, rfl⟩ := List.mem_map.mp hb
  obtain ⟨r, hr, e⟩ := bords_mem ha
  obtain ⟨q, hq, e2⟩ := bords_mem hc
  have := hk.1 r hr
  have := hl.1 q hq
  show a + 1 ≠ c + (n + 2)
  omega
theorem cost_diff (hk : Sel n k) (hl : Sel n l) : costB (bords (diffS k l)) ≤ costB (bords k) + costB (bords l) := by
  refine cost_two (sel_diff hk hl).asc fun x hx => ?_
  have h := (bord_iff (sel_diff hk hl) x).mp hx
  rw [inR_diff hk hl, inR_diff hk hl] at h
  rw [bord_iff hk, bord_iff hl]
  by_cases z : inR k (x - 1) = inR k x
  · right
    intro w
    rw [z, w] at h
    exact h rfl
  · exact .inl z
theorem diff_nil (hk : Sel n k) (hl : Sel n l) (h : diffS k l = []) : k = l := sel_uniq hk hl fun p _ _ => by
  have := inR_diff hk hl p
  rw [h] at this
  have z : inR [] p = false := rfl
  rw [z] at this
  cases h1 : inR k p <;> cases h2 : inR l p <;> rw [h1, h2] at this <;> first | rfl | cases this
end
end Sx

/-! k41: tokens of blocks, and the clicks made of them -/
namespace Lw
open PySem PySem.Spec PyProof PyProof.Rows L2 Dx
open Sx (Sel bords blks costB evens)
theorem while_inv {M : Type} {ct : M → Prop} {c : M → Bool} {cb : M → Prop} {step : M → M} (I : M → Prop) (μ : M → Nat) : ∀ (n : Nat) (m : M), I m → μ m < n → (∀ m, I m → ct m ∧ (c m = true → cb m ∧ I (step m) ∧ μ (step m) < μ m)) → whileC ct c cb step n m ∧ I (whileF c step n m) ∧ c (whileF c step n m) = false
  | 0, m, _, h, _ => absurd h (Nat.not_lt_zero _)
  | n + 1, m, hi, hm, hs => by
    obtain ⟨h1, h2⟩ := hs m hi
    by_cases hc : c m = true
    · obtain ⟨h3, h4, h5⟩ := h2 hc
      obtain ⟨k1, k2, k3⟩ := while_inv I μ n (step m) h4 (by omega) hs
      have e : whileF c step (n + 1) m = whileF c step n (step m) := by
        show (if c m = true then _ else _) = _
        rw [if_pos hc]
      rw [e]
      exact ⟨⟨h1, fun _ => ⟨h3, k1⟩⟩, k2, k3⟩
    · have e : whileF c step (n + 1) m = m := by
        show (if c m = true then _ else _) = _
        rw [if_neg hc]
      rw [e]
      exact ⟨⟨h1, fun z => absurd z hc⟩, hi, Bool.eq_false_iff.mpr hc⟩

def p1 (t : List Int) : Bool := decide (t.length = 1)
def p2 (t : List Int) : Bool := decide (t.length = 2)
/-- tokens: s of them single, p of them pairs -/
structure Tk (c : List (List Int)) (s p : Nat) : Prop where
  all : ∀ t ∈ c, t.length = 1 ∨ t.length = 2
  one : c.countP p1 = s
  two : c.countP p2 = p
theorem Tk.len : ∀ {c : List (List Int)} {s p : Nat}, Tk c s p → c.length = s + p
  | [], s, p, h => by
    have h1 : 0 = s := h.one
    have h2 : 0 = p := h.two
    show 0 = s + p
    omega
  | t :: c, s, p, h => by
    have ih := Tk.len (c := c) (s := c.countP p1) (p := c.countP p2) ⟨fun x hx => h.all x (List.mem_cons_of_mem _ hx), rfl, rfl⟩
    have h1 := h.one
    have h2 := h.two
    rw [List.countP_cons] at h1 h2
    rw [List.length_cons, ih]
    rcases h.all t (by simp) with e | e
    · have a : p1 t = true := decide_eq_true e
      have b : p2 t = false := decide_eq_false (by omega)
      rw [a] at h1
      rw [b] at h2
      simp at h1 h2
      omega
    · have a : p1 t = false := decide_eq_false (by omega)
      have b : p2 t = true := decide_eq_true e
      rw [a] at h1
      rw [b] at h2
      simp at h1 h2
      omega
theorem Tk.app {c d : List (List Int)} {s p s' p' : Nat} (h : Tk c s p) (k : Tk d s' p') : Tk (c ++ d) (s + s') (p + p') :=
  ⟨fun t ht => (List.mem_append.mp ht).elim (h.all t) (k.all t), by rw [List.countP_append, h.one, k.one], by rw [List.countP_append, h.two, k.two]⟩
theorem Tk.nil : Tk [] 0 0 := ⟨fun _ h => (nomatch h), rfl, rfl⟩
theorem Tk.single (a : Int) : Tk [[a]] 1 0 := ⟨fun t ht => by rw [List.mem_singleton.mp ht]; exact .inl rfl, rfl, rfl⟩
theorem Tk.pair (a b : Int) : Tk [[a, b]] 0 1 := ⟨fun t ht => by rw [List.mem_singleton.mp ht]; exact .inr rfl, rfl, rfl⟩
theorem tokens_ok {a b : Int} (h : a ≤ b) (hb : b - a ≤ 10000) : mtokens_in_p ((a, b), 0, ()) ∧ ∃ s p : Nat, Tk (mtokens_in ((a, b), 0, ())) s p ∧ (s : Int) + 2 * p = b - a + 1 ∧ s ≤ 1 := by
  have big := line_big
  obtain ⟨s, es⟩ : ∃ s : mtokens_in_S, s = ((a, b), 0, ()) := ⟨_, rfl⟩
  rw [← es]
  have s1 : mtokens_in_t1 s = (a, b) := by rw [es]; rfl
  have s2 : s.2.1 = 0 := by rw [es]
  have esi : mtokens_in_v_single_2 s = if (b - a) % 2 = 0 then some a else none := by
    unfold mtokens_in_v_single_2
    rw [s1, s2]
    show (if (dfInt).eq ((b - a) % 2) 0 = true then some (a + 2 * 0) else none) = _
    by_cases z : (b - a) % 2 = 0
    · rw [if_pos (df_t.mpr z), if_pos z, show a + 2 * 0 = a by omega]
    · rw [if_neg (fun w => z (df_t.mp w)), if_neg z]
  have main := while_inv (ct := fun m => mtokens_in_L4t ((s, m), ())) (c := fun m => mtokens_in_L4h ((s, m), ())) (cb := fun m => mtokens_in_L4c ((s, m), ())) (step := fun m => mtokens_in_L4s ((s, m), ()))
    (fun m => ∃ u p : Nat, Tk m.1 u p ∧ m.2 = a + u + 2 * p ∧ u ≤ 1 ∧ m.2 ≤ b + 1 ∧ (((b - a) % 2 = 0 ∧ (u = 1 ∨ p = 0)) ∨ ((b - a) % 2 = 1 ∧ u = 0))) (fun m => (b + 1 - m.2).toNat) turns (mtokens_in_L4i s)
    ⟨0, 0, Tk.nil, by show (mtokens_in_t1 s).1 = a + ((0 : Nat) : Int) + 2 * ((0 : Nat) : Int); rw [s1]; show a = _; omega, by omega, by show (mtokens_in_t1 s).1 ≤ _; rw [s1]; show a ≤ _; omega, by omega⟩
    (by show (b + 1 - (mtokens_in_t1 s).1).toNat < turns; rw [s1]; unfold turns; show (b + 1 - a).toNat < _; omega) fun m hI => by
    obtain ⟨u, p, tk, e2, u1, le, par⟩ := hI
    obtain ⟨c, hc⟩ : ∃ c : List (List Int), c = m.1 := ⟨_, rfl⟩
    obtain ⟨d, hd⟩ : ∃ d : Int, d = m.2 := ⟨_, rfl⟩
    have em : m = (c, d) := by rw [hc, hd]
    rw [← hc] at tk
    rw [← hd] at e2 le
    subst em
    have cl := tk.len
    refine ⟨trivial, fun z => ?_⟩
    have z : decide (d ≤ (mtokens_in_t1 s).2) = true := z
    rw [s1] at z
    have z : d ≤ b := of_decide_eq_true z
    have et : mtokens_in_v_token_5 ((s, (c, d)), ()) = if (b - a) % 2 = 0 ∧ d = a then [d] else [d, d + 1] := by
      unfold mtokens_in_v_token_5
      show (if (dfOpt dfInt).eq (some d) (mtokens_in_v_single_2 s) = true then [d] else [d, d + 1]) = _
      rw [esi]
      by_cases y : (b - a) % 2 = 0
      · rw [if_pos y]
        by_cases x : d = a
        · rw [if_pos (df_t.mpr (by rw [x])), if_pos ⟨y, x⟩]
        · rw [if_neg (fun w => x (Option.some.inj (df_t.mp w))), if_neg (fun w => x w.2)]
      · rw [if_neg y, if_neg (fun w => by have := df_t.mp w; cases this), if_neg (fun w => y w.1)]
    have e6 : (mtokens_in_L4s ((s, (c, d)), ())).1 = c ++ [mtokens_in_v_token_5 ((s, (c, d)), ())] := rfl
    have e7 : (mtokens_in_L4s ((s, (c, d)), ())).2 = d + ((mtokens_in_v_token_5 ((s, (c, d)), ())).length : Int) := rfl
    refine ⟨⟨by show c.length < sizeLine; omega, trivial⟩, ?_, ?_⟩
    · show ∃ u p : Nat, Tk (mtokens_in_L4s ((s, (c, d)), ())).1 u p ∧ (mtokens_in_L4s ((s, (c, d)), ())).2 = a + u + 2 * p ∧ u ≤ 1 ∧ (mtokens_in_L4s ((s, (c, d)), ())).2 ≤ b + 1 ∧ _
      rw [e6, e7, et]
      by_cases y : (b - a) % 2 = 0 ∧ d = a
      · rw [if_pos y]
        have u0 : u = 0 := by omega
        have p0 : p = 0 := by omega
        subst u0; subst p0
        exact ⟨1, 0, tk.app (Tk.single d), by show d + 1 = _; omega, by omega, by show d + 1 ≤ _; omega, .inl ⟨y.1, .inl rfl⟩⟩
      · rw [if_neg y]
        exact ⟨u, p + 1, tk.app (Tk.pair d (d + 1)), by show d + 2 = _; omega, u1, by show d + 2 ≤ _; omega, by omega⟩
    · show (b + 1 - (mtokens_in_L4s ((s, (c, d)), ())).2).toNat < (b + 1 - d).toNat
      rw [e7, et]
      by_cases y : (b - a) % 2 = 0 ∧ d = a
      · rw [if_pos y]
        exact (by omega : (b + 1 - (d + 1)).toNat < (b + 1 - d).toNat)
      · rw [if_neg y]
        exact (by omega : (b + 1 - (d + 2)).toNat < (b + 1 - d).toNat)
  obtain ⟨w1, ⟨u, p, tk, e2, u1, le, par⟩, w3⟩ := main
  have w3 : decide ((whileF (fun m => mtokens_in_L4h ((s, m), ())) (fun m => mtokens_in_L4s ((s, m), ())) turns (mtokens_in_L4i s)).2 ≤ (mtokens_in_t1 s).2) = false := w3
  have w3 := of_decide_eq_false w3
  rw [s1] at w3
  have w3 : ¬ (whileF (fun m => mtokens_in_L4h ((s, m), ())) (fun m => mtokens_in_L4s ((s, m), ())) turns (mtokens_in_L4i s)).2 ≤ b := w3
  refine ⟨⟨by show (0 : Int) < 2; decide, fun _ => ?_, w1, trivial⟩, u, p, ?_, by omega, u1⟩
  · show CMulX 2 s.2.1
    rw [s2]; exact mul_ok (by decide)
  · unfold mtokens_in mtokens_in_L4
    rw [hide_eq, LoopW_eq]
    exact tk
theorem cover_loop : ∀ (bl : List (Int × Int)), (∀ r ∈ bl, r.1 ≤ r.2 ∧ r.2 - r.1 ≤ 10000) → ∃ s p : Nat, Tk (bl.flatMap fun r => mtokens_in (r, 0, ())) s p ∧ (s : Int) + 2 * p = (bl.map fun r => r.2 - r.1 + 1).sum ∧ (s : Int) + p = (bl.map fun r => (r.2 - r.1 + 2) / 2).sum
  | [], _ => ⟨0, 0, Tk.nil, rfl, rfl⟩
  | r :: bl, h => by
    obtain ⟨s, p, t, e1, e2⟩ := cover_loop bl fun q hq => h q (List.mem_cons_of_mem _ hq)
    have hr := h r (by simp)
    obtain ⟨_, s', p', t', e1', u1⟩ := tokens_ok hr.1 hr.2
    rw [List.flatMap_cons, List.map_cons, List.map_cons, List.sum_cons, List.sum_cons, ← e1, ← e2]
    exact ⟨s' + s, p' + p, t'.app t, by omega, by omega⟩
theorem zip_zero : ∀ bl : List (Int × Int), List.zip bl (List.replicate bl.length (0 : Int)) = bl.map fun r => (r, 0)
  | [] => rfl
  | r :: bl => by
    show (r, (0 : Int)) :: List.zip bl (List.replicate bl.length 0) = _
    rw [zip_zero bl]; rfl
theorem rep_zero (k : Nat) : repL ([(0 : Int)] : List Int) (k : Int) = List.replicate k 0 := by
  unfold repL
  rw [Int.toNat_natCast]
  induction k with
  | zero => rfl
  | succ k ih => rw [List.replicate_succ, List.flatten_cons, ih]; rfl
theorem cover_ok {l : List (Int × Int)} {n : Int} (h : Sel n l) (hl : l.length ≤ 1000) : mbest_cover_p (l, ()) ∧ ∃ s p : Nat, Tk (mbest_cover (l, ())) s p ∧ s + 2 * p = 2 * l.length ∧ (s : Int) + p = costB (bords l) := by
  have big := line_big
  obtain ⟨b1, b2⟩ := bord_ok hl
  obtain ⟨k1, k2⟩ := blk_ok (bs := bords l) (by rw [Sx.bords_len]; omega)
  have bw : mblocks_with_p (l, ()) ∧ mblocks_with (l, ()) = blks (bords l) := by
    have c1 : mblocks_with_c1 (l, ()) = bords l := b2
    refine ⟨⟨b1, ?_, trivial⟩, ?_⟩
    · show mblocks_in_p (mblocks_with_c1 (l, ()), ())
      rw [c1]; exact k1
    · unfold mblocks_with mblocks_with_c2
      rw [hide_eq, c1, k2]
  have ble := Sx.blks_le (bords l)
  have cv := Sx.cover_len ble
  rw [Sx.cover_blks, Sx.bords_len] at cv
  have one : ∀ r ∈ blks (bords l), r.1 ≤ r.2 ∧ r.2 - r.1 ≤ 10000 := fun r hr => by
    have le : ∀ (m : List (Int × Int)), (∀ q ∈ m, q.1 ≤ q.2) → ∀ r ∈ m, r.2 - r.1 + 1 ≤ (m.map fun r => r.2 - r.1 + 1).sum := by
      intro m
      induction m with
      | nil => intro _ r hr; cases hr
      | cons q m ih =>
        intro hm r hr
        have pos : ∀ (m : List (Int × Int)), (∀ q ∈ m, q.1 ≤ q.2) → 0 ≤ (m.map fun r => r.2 - r.1 + 1).sum := by
          intro m
          induction m with
          | nil => intro _; exact Int.le_refl _
          | cons q m ih =>
            intro hm
            have h1 := hm q (by simp)
            have h2 := ih fun x hx => hm x (List.mem_cons_of_mem _ hx)
            rw [List.map_cons, List.sum_cons]; omega
        have h1 := hm q (by simp)
        have h2 := pos m fun x hx => hm x (List.mem_cons_of_mem _ hx)
        rw [List.map_cons, List.sum_cons]
        rcases List.mem_cons.mp hr with e | hr
        · rw [e]; omega
        · have := ih (fun x hx => hm x (List.mem_cons_of_mem _ hx)) r hr
          omega
    have := le _ ble r hr
    have := ble r hr
    omega
  obtain ⟨s, p, tk, e1, e2⟩ := cover_loop (blks (bords l)) one
  obtain ⟨c, ec⟩ : ∃ c : mcover_with_S, c = (blks (bords l), repL ([(0 : Int)] : List Int) ((blks (bords l)).length : Int), ()) := ⟨_, rfl⟩
  have zz : List.zip c.1 c.2.1 = (blks (bords l)).map fun r => (r, 0) := by
    rw [ec]
    show List.zip (blks (bords l)) (repL ([(0 : Int)] : List Int) ((blks (bords l)).length : Int)) = _
    rw [rep_zero, zip_zero]
  have val : lc2V (List.zip c.1 c.2.1) (fun x => mcover_with_c1 (c, x)) (fun x y => ((c, x), y).2) = (blks (bords l)).flatMap fun r => mtokens_in (r, 0, ()) := by
    rw [zz]
    unfold lc2V
    rw [List.flatMap_map]
    refine congrArg (fun f => List.flatMap f (blks (bords l))) (funext fun r => ?_)
    show List.map (fun y => y) (mtokens_in (r, 0, ())) = _
    rw [List.map_id']
  have cp : mcover_with_p c ∧ mcover_with c = (blks (bords l)).flatMap fun r => mtokens_in (r, 0, ()) := by
    refine ⟨⟨fun x hx => ?_, ?_, trivial⟩, ?_⟩
    · rw [zz] at hx
      obtain ⟨r, hr, rfl⟩ := List.mem_map.mp hx
      have hr' := one r hr
      exact ⟨⟨(tokens_ok hr'.1 hr'.2).1, trivial⟩, fun _ _ => trivial⟩
    · show (lc2V (List.zip c.1 c.2.1) (fun x => mcover_with_c1 (c, x)) (fun x y => ((c, x), y).2)).length ≤ sizeLine
      rw [val, tk.len]
      omega
    · unfold mcover_with
      rw [hide_eq]
      exact val
  obtain ⟨t, et⟩ : ∃ t : mbest_cover_S, t = (l, ()) := ⟨_, rfl⟩
  have t1 : mbest_cover_c1 t = blks (bords l) := by rw [et]; exact bw.2
  have t2 : mbest_cover_c2 t = (blks (bords l)).flatMap fun r => mtokens_in (r, 0, ()) := by
    unfold mbest_cover_c2
    rw [t1, ← ec, cp.2]
  have bl := Sx.blks_len (bords l)
  rw [Sx.bords_len] at bl
  rw [← et]
  refine ⟨⟨by rw [et]; exact bw.1, ?_, ?_, trivial⟩, s, p, ?_, by omega, e2⟩
  · show RepOk ([(0 : Int)] : List Int) ((mbest_cover_c1 t).length : Int)
    rw [t1]
    exact ⟨by omega, by omega, by show 1 * _ ≤ _; omega⟩
  · show mcover_with_p (mbest_cover_c1 t, repL ([(0 : Int)] : List Int) ((mbest_cover_c1 t).length : Int), ())
    rw [t1, ← ec]; exact cp.1
  · unfold mbest_cover
    rw [hide_eq, t2]
    exact tk
theorem pe1 (t : List Int) : (dfInt).eq (t.length : Int) 1 = p1 t := by
  unfold p1
  rw [Bool.eq_iff_iff, df_t, decide_eq_true_iff]; omega
theorem pe2 (t : List Int) : (dfInt).eq (t.length : Int) 2 = p2 t := by
  unfold p2
  rw [Bool.eq_iff_iff, df_t, decide_eq_true_iff]; omega
theorem clicks_of_ok {c : List (List Int)} {s p : Nat} (h : Tk c s p) (hs : s % 2 = 0) (hl : c.length ≤ 10000) : mclicks_of_p (c, ()) ∧ (mclicks_of (c, ())).length = s + p := by
  have big := line_big
  obtain ⟨t, et⟩ : ∃ t : mclicks_of_S, t = (c, ()) := ⟨_, rfl⟩
  have t1 : t.1 = c := by rw [et]
  rw [← et]
  have cl := h.len
  have ls : (mclicks_of_v_singles_1 t).length = s := by
    unfold mclicks_of_v_singles_1 lcV
    rw [List.length_map, t1, ← List.countP_eq_length_filter, ← h.one]
    refine List.countP_congr fun x _ => ?_
    show (dfInt).eq (x.length : Int) 1 = true ↔ _
    rw [pe1]
  have lx : (mclicks_of_L3x t).length = s / 2 := by
    unfold mclicks_of_L3x
    rw [List.length_zip, Sx.step2a, Sx.step2b, Sx.evens_len, Sx.evens_len, List.length_drop, ls]
    omega
  have main := loop_inv (c := fun m x => mclicks_of_L3c ((t, m), x)) (step := fun m x => mclicks_of_L3s ((t, m), x)) (fun j (m : mclicks_of_L3M) => m.length = 2 * j) (mclicks_of_L3x t) 0 (mclicks_of_L3i t) rfl fun j m x _ hj _ hm => by
    refine ⟨⟨by show m.length + 2 ≤ sizeLine; omega, trivial⟩, ?_⟩
    show (m ++ [_, _]).length = 2 * (j + 1)
    rw [List.length_append, hm]
    show 2 * j + 2 = _
    omega
  obtain ⟨lc, lf⟩ := main
  rw [← LoopF_eq, lx, Nat.zero_add] at lf
  have lf : (mclicks_of_L3 t).length = 2 * (s / 2) := lf
  have l2 : (lcV t.1 (fun x => ((dfInt).eq (((t, x).2).length : Int) (2 : Int))) (fun x => (("click" : Str), (ixI (0 : Int) (t, x).2 (0 : Int))))).length = p := by
    unfold lcV
    rw [List.length_map, t1, ← List.countP_eq_length_filter, ← h.two]
    refine List.countP_congr fun x _ => ?_
    show (dfInt).eq (x.length : Int) 2 = true ↔ _
    rw [pe2]
  refine ⟨⟨fun x hx => ⟨trivial, fun z => ⟨?_, trivial⟩⟩, lc, fun x hx => ⟨trivial, fun z => ⟨?_, trivial⟩⟩, ?_, trivial⟩, ?_⟩
  · have z : (dfInt).eq (x.length : Int) 1 = true := z
    have z := df_t.mp z
    show IxOk x 0
    unfold IxOk; omega
  · have z : (dfInt).eq (x.length : Int) 2 = true := z
    have z := df_t.mp z
    show IxOk x 0
    unfold IxOk; omega
  · show (mclicks_of_L3 t).length + (lcV t.1 (fun x => ((dfInt).eq (((t, x).2).length : Int) (2 : Int))) (fun x => (("click" : Str), (ixI (0 : Int) (t, x).2 (0 : Int))))).length ≤ sizeLine
    rw [lf, l2]; omega
  · unfold mclicks_of
    rw [hide_eq, List.length_append, lf, l2]
    omega
theorem shortest_ok {n : Int} {l : List (Int × Int)} (h : Sel n l) (n1 : 1 ≤ n) (n2 : n ≤ 1000000000000000000000000000000) (hl : l.length ≤ 1000) : mshortest_clicks_p (n, l, ()) ∧ ((mshortest_clicks (n, l, ())).length : Int) = costB (bords l) := by
  obtain ⟨c1, s, p, tk, e1, e2⟩ := cover_ok h hl
  have cl := tk.len
  obtain ⟨c3, e3⟩ := clicks_of_ok tk (by omega) (by omega)
  refine ⟨⟨⟨chk_items n1 n2, chk_sel h, trivial⟩, c1, c3, trivial⟩, ?_⟩
  unfold mshortest_clicks
  rw [hide_eq]
  show ((mclicks_of (mbest_cover (l, ()), ())).length : Int) = _
  rw [e3]
  omega
end Lw

/-! k41: sizes and runs -/
namespace Lw
open PySem PySem.Spec PyProof PyProof.Rows L2 Dx
theorem size_ok {n : Nat} {sc b : List Int} (g : Good n b) (hn : n ≤ 900000) : m_law_size_p (sc, b, ()) ∧ Good (n + 4) (m_law_size (sc, b, ())).1 ∧ 1 ≤ (m_law_size (sc, b, ())).2 ∧ (m_law_size (sc, b, ())).2 ≤ 1000000000000000000000000000000 := by
  obtain ⟨s, es⟩ : ∃ s : m_law_size_S, s = (sc, b, ()) := ⟨_, rfl⟩
  have s2 : s.2.1 = b := by rw [es]
  rw [← es]
  rw [← s2] at g
  obtain ⟨p1, g1, a1, b1⟩ := draw (c := 7) g (by omega) (by decide) (by decide)
  have f1 : m_law_draw (s.2.1, 7, ()) = m_law_size_c1 s := rfl
  rw [f1] at g1 a1 b1
  obtain ⟨p2, g2, a2, b2⟩ := draw (c := 60) g1 (by omega) (by decide) (by decide)
  have f2 : m_law_draw ((m_law_size_c1 s).1, 60, ()) = m_law_size_c2 s := rfl
  rw [f2] at g2 a2 b2
  obtain ⟨p3, g3, a3, b3⟩ := draw (c := 3) g2 (by omega) (by decide) (by decide)
  have f3 : m_law_draw ((m_law_size_c2 s).1, 3, ()) = m_law_size_c3 s := rfl
  rw [f3] at g3 a3 b3
  obtain ⟨p4, g4, a4, b4⟩ := draw (c := 3) g3 (by omega) (by decide) (by decide)
  have f4 : m_law_draw ((m_law_size_c3 s).1, 3, ()) = m_law_size_c4 s := rfl
  rw [f4] at g4 a4 b4
  have cp30 : CPowX (10 : Int) (30 : Int) := pow_ok (k := 4) (by decide) (by decide) (by decide) (by decide)
  have i4 : IxOk ([((1 : Int) + (m_law_size_c1 s).2), ((1 : Int) + (m_law_size_c2 s).2), (((10 : Int) ^ ((30 : Int)).toNat) - (m_law_size_c3 s).2)] : List Int) (m_law_size_c4 s).2 := len4 (n := 3) rfl a4 b4
  have v4 := ix_all (d := (0 : Int)) (fun x => 1 ≤ x ∧ x ≤ 1000000000000000000000000000000) i4 (by rw [ten30]; intro x hx; simp at hx; omega)
  refine ⟨⟨?_, trivial⟩, ?_⟩
  · show if _ then _ else _
    split
    · trivial
    · exact ⟨p1, p2, cp30, p3, p4, i4, trivial⟩
  · unfold m_law_size
    rw [hide_eq]
    split
    · exact ⟨by rw [s2] at g ⊢; exact g.mono (by omega), by show (1 : Int) ≤ 7; decide, by show (7 : Int) ≤ _; decide⟩
    · exact ⟨g4.mono (by omega), v4.1, v4.2⟩
def RunsI (n : Nat) (z : Int) (k : Nat) (m : m_law_runs_L8M) : Prop := Good (n + 4 + 3 * k) m.1 ∧ Sel z m.2.1 ∧ 0 ≤ m.2.2 ∧ (∀ r ∈ m.2.1, r.2 + 2 ≤ m.2.2) ∧ m.2.1.length ≤ k
theorem Sel_last {z a b : Int} {l : List (Int × Int)} (h : Sel z (l ++ [(a, b)])) (hb : a ≤ z - 1) : Sel z (l ++ [(a, z - 1)]) := by
  obtain ⟨h1, h2⟩ := h
  obtain ⟨k1, k2, k3⟩ := List.pairwise_append.mp h2
  have ha := h1 (a, b) (by simp)
  refine ⟨fun r hr => ?_, List.pairwise_append.mpr ⟨k1, List.pairwise_singleton .., fun x hx y hy => ?_⟩⟩
  · rcases List.mem_append.mp hr with w | w
    · exact h1 r (List.mem_append_left _ w)
    · rw [List.mem_singleton.mp w]
      exact ⟨ha.1, hb, by show z - 1 < z; omega⟩
  · rw [List.mem_singleton.mp hy]
    exact k3 x hx (a, b) (by simp)
theorem runs_ok {n : Nat} {b : List Int} {z M : Int} (hM : 1 ≤ M) (hM2 : M ≤ 100) (g : Good n b) (hn : n ≤ 900000) (hz : 1 ≤ z) (hz2 : z ≤ 1000000000000000000000000000000) : m_law_runs_p (b, z, M, ()) ∧ Good (n + 400) (m_law_runs (b, z, M, ())).1 ∧ Sel z (m_law_runs (b, z, M, ())).2 ∧ (m_law_runs (b, z, M, ())).2.length ≤ 100 := by
  obtain ⟨s, es⟩ : ∃ s : m_law_runs_S, s = (b, z, M, ()) := ⟨_, rfl⟩
  have s1 : s.1 = b := by rw [es]
  have s2 : s.2.1 = z := by rw [es]
  have s3 : s.2.2.1 = M := by rw [es]
  rw [← es]
  rw [← s1] at g
  obtain ⟨p1, g1, a1, b1⟩ := draw (c := 3) g (by omega) (by decide) (by decide)
  have f1 : m_law_draw (s.1, 3, ()) = m_law_runs_c1 s := rfl
  rw [f1] at g1 a1 b1
  obtain ⟨p2, g2, a2, b2⟩ := draw (c := 2) g1 (by omega) (by decide) (by decide)
  have f2 : m_law_draw ((m_law_runs_c1 s).1, 2, ()) = m_law_runs_c2 s := rfl
  rw [f2] at g2 a2 b2
  obtain ⟨p5, g5, a5, b5⟩ := draw (c := 3) g2 (by omega) (by decide) (by decide)
  have f5 : m_law_draw ((m_law_runs_c2 s).1, 3, ()) = m_law_runs_c5 s := rfl
  rw [f5] at g5 a5 b5
  obtain ⟨p7, g7, a7, b7⟩ := draw (c := M) g5 (by omega) (by omega) (small_log (by omega) (by omega))
  have f7 : m_law_draw ((m_law_runs_c5 s).1, M, ()) = m_law_runs_c7 s := by unfold m_law_runs_c7; rw [s3]
  rw [f7] at g7 a7 b7
  have i5 : IxOk ([(1 : Int), (3 : Int), (max (1 : Int) (s.2.1 / (40 : Int)))] : List Int) (m_law_runs_c5 s).2 := len4 (n := 3) rfl a5 b5
  have wide : 1 ≤ m_law_runs_v_wide_6 s ∧ m_law_runs_v_wide_6 s ≤ 1000000000000000000000000000000 := ix_all (fun x => 1 ≤ x ∧ x ≤ 1000000000000000000000000000000) i5 (by
    intro x hx
    rw [s2] at hx
    simp at hx
    omega)
  have hw := small_log (z := m_law_runs_v_wide_6 s) (by omega) wide.2
  have here0 : 0 ≤ m_law_runs_v_here_4 s := Int.mul_nonneg a1 a2
  have hxl : (m_law_runs_L8x s).length ≤ 100 := by
    unfold m_law_runs_L8x
    rw [rangeL_len]
    omega
  have main := loop_inv (c := fun m x => m_law_runs_L8c ((s, m), x)) (step := fun m x => m_law_runs_L8s ((s, m), x)) (RunsI n z) (m_law_runs_L8x s) 0 (m_law_runs_L8i s) ⟨g7, Sel.nil, here0, fun r h => (nomatch h), Nat.le_refl _⟩ fun j m x _ hj _ ⟨h1, h2, h3, h4, h5⟩ => by
    obtain ⟨t, et⟩ : ∃ t : m_law_runs_L8T, t = ((s, m), x) := ⟨_, rfl⟩
    have t1 : t.1.1 = s := by rw [et]
    have t2 : t.1.2 = m := by rw [et]
    rw [← et]
    rw [← t2] at h1 h2 h3 h4 h5
    have wt : m_law_runs_v_wide_6 t.1.1 = m_law_runs_v_wide_6 s := by rw [t1]
    obtain ⟨q1, k1, c1, d1⟩ := draw (c := m_law_runs_v_wide_6 t.1.1) h1 (by omega) (by omega) (by rw [wt]; exact hw)
    have e1 : m_law_draw (t.1.2.1, m_law_runs_v_wide_6 t.1.1, ()) = m_law_runs_c9 t := rfl
    rw [e1] at k1 c1 d1
    obtain ⟨q2, k2, c2, d2⟩ := draw (c := 2) k1 (by omega) (by decide) (by decide)
    have e2 : m_law_draw ((m_law_runs_c9 t).1, 2, ()) = m_law_runs_c14 t := rfl
    rw [e2] at k2 c2 d2
    have i2 : IxOk ([(1 : Int), (m_law_runs_v_wide_6 t.1.1)] : List Int) (m_law_runs_c14 t).2 := len4 (n := 2) rfl c2 d2
    have v2 := ix_all (d := (0 : Int)) (fun x => 1 ≤ x ∧ x ≤ 1000000000000000000000000000000) i2 (by intro x hx; simp at hx; omega)
    obtain ⟨q3, k3, c3, d3⟩ := draw (c := ixI (0 : Int) ([(1 : Int), (m_law_runs_v_wide_6 t.1.1)] : List Int) (m_law_runs_c14 t).2) k2 (by omega) (by omega) (small_log (by omega) v2.2)
    have e3 : m_law_draw ((m_law_runs_c14 t).1, ixI (0 : Int) ([(1 : Int), (m_law_runs_v_wide_6 t.1.1)] : List Int) (m_law_runs_c14 t).2, ()) = m_law_runs_c15 t := rfl
    rw [e3] at k3 c3 d3
    have hlast : m_law_runs_h12 t = true → m_law_runs_v_last_10 t < z := fun h => by
      have := of_decide_eq_true (show decide (m_law_runs_v_last_10 t < t.1.1.2.1) = true from h)
      rwa [t1, s2] at this
    have hf : m_law_runs_v_last_10 t = t.1.2.2.2 + (m_law_runs_c9 t).2 := rfl
    have eh : (m_law_runs_L8s t).2.2 = m_law_runs_v_last_10 t + 2 + (m_law_runs_c15 t).2 := rfl
    have ef : (m_law_runs_L8s t).2.1 = if m_law_runs_h12 t = true then t.1.2.2.1 ++ [(t.1.2.2.2, m_law_runs_v_last_10 t)] else t.1.2.2.1 := rfl
    refine ⟨⟨q1, fun _ => ?_, q2, i2, q3, trivial⟩, ?_, ?_, ?_, ?_, ?_⟩
    · exact Nat.lt_of_lt_of_le (show t.1.2.2.1.length < 100000 by omega) line_big
    · exact k3.mono (by omega)
    · rw [ef]
      split
      · rename_i h
        exact h2.snoc (by omega) (by omega) (hlast h) fun r hr => by have := h4 r hr; omega
      · exact h2
    · rw [eh]; omega
    · intro r hr
      rw [ef] at hr
      rw [eh]
      split at hr
      · rcases List.mem_append.mp hr with y | y
        · have := h4 r y; omega
        · rw [List.mem_singleton.mp y]
          show m_law_runs_v_last_10 t + 2 ≤ _
          omega
      · have := h4 r hr; omega
    · rw [ef]
      split
      · rw [List.length_append, List.length_singleton]; omega
      · omega
  obtain ⟨lc, li⟩ := main
  rw [← LoopF_eq] at li
  have li' : RunsI n z (0 + (m_law_runs_L8x s).length) (m_law_runs_L8 s) := li
  obtain ⟨h1, h2, _, _, h5⟩ := li'
  have h5' : (m_law_runs_L8 s).2.1.length ≤ 100 := by omega
  obtain ⟨p8, g8, a8, b8⟩ := draw (c := 4) h1 (by omega) (by decide) (by decide)
  have f8 : m_law_draw ((m_law_runs_L8 s).1, 4, ()) = m_law_runs_c17 s := rfl
  rw [f8] at g8 a8 b8
  have ne : m_law_runs_h20 s = true → (m_law_runs_L8 s).2.1 ≠ [] := fun h e => by
    unfold m_law_runs_h20 at h
    rw [e] at h
    cases (Bool.and_eq_true_iff.mp h).1
  have ix : m_law_runs_h20 s = true → IxOk (m_law_runs_L8 s).2.1 (-1) := fun h => ixOk_last (ne h)
  have v : Sel z (m_law_runs_v_found_21 s) ∧ (m_law_runs_v_found_21 s).length ≤ 100 := by
    unfold m_law_runs_v_found_21
    split
    · rename_i h
      obtain ⟨l0, r, e⟩ : ∃ l0 r, (m_law_runs_L8 s).2.1 = l0 ++ [r] := (Sx.snoc_cases (m_law_runs_L8 s).2.1).elim (fun z => absurd z (ne h)) fun z => z
      unfold m_law_runs_v_found_19
      rw [e] at h2 h5' ⊢
      rw [ix_last, set_last, s2]
      have hr := h2.1 r (by simp)
      refine ⟨Sel_last (b := r.2) h2 (by omega), ?_⟩
      rw [List.length_append, List.length_singleton] at h5' ⊢
      exact h5'
    · exact ⟨h2, h5'⟩
  refine ⟨⟨p1, p2, mul_ok (by omega), ⟨by decide, by decide⟩, p5, i5, ?_, rg_ok (by omega) (by omega), lc, fun _ => p8, ix, ix, trivial⟩, ?_⟩
  · show m_law_draw_p ((m_law_runs_c5 s).1, s.2.2.1, ())
    rw [s3]; exact p7
  · unfold m_law_runs
    rw [hide_eq]
    refine ⟨?_, v.1, v.2⟩
    show Good _ (m_law_runs_v_bag_here_18 s)
    unfold m_law_runs_v_bag_here_18
    split
    · exact g8.mono (by omega)
    · exact h1.mono (by omega)
end Lw

/-! k41: the law -/
namespace Lw
open PySem PySem.Spec PyProof PyProof.Rows L2 Dx
open Sx (bords blks costB)
theorem pair_ok {s : m_law_right_S} {z : Int} (hz : m_law_right_v_size_here_2 s = z) (z1 : 1 ≤ z) (z2 : z ≤ 333333333333333333333333333333) {t : m_law_right_L11T} (t1 : t.1.1 = s) {l : List (Int × Int)} {c : Int} (t2 : t.2 = (l, c)) (hs : Sel z l) (hl : l.length ≤ 100) (hc : c = costB (bords l)) : m_law_right_L11c t ∧ m_law_right_L11r t = none := by
  have big := line_big
  have zt : m_law_right_v_size_here_2 t.1.1 = z := by rw [t1, hz]
  have l1 : t.2.1 = l := by rw [t2]
  have l2 : t.2.2 = c := by rw [t2]
  have zz : z ≤ 1000000000000000000000000000000 := by omega
  obtain ⟨b1, b2⟩ := bof_ok hs z1 zz (by omega)
  obtain ⟨b3, b4⟩ := blof_ok hs z1 zz (by omega)
  obtain ⟨b5, b6⟩ := shortest_ok hs z1 zz (by omega)
  have hs' : Sx.Sel z l := hs
  have hd : Sel (2 * z) (Sx.dbl l) := Sx.sel_dbl hs'
  have dl : (Sx.dbl l).length = l.length := by unfold Sx.dbl; rw [List.length_map]
  obtain ⟨b7, b8⟩ := cost_ok hd (by omega) (by omega) (by omega)
  have b9 : costB (bords (Sx.dbl l)) = (bords l).length := by
    rw [Sx.bords_dbl]
    exact Sx.cost_double hs'.asc
  obtain ⟨k1, k2, k3⟩ := Sx.cost_bounds (bords l)
  rw [← hc] at k1 k2 k3
  have bl := Sx.bords_len l
  have e12 : m_law_right_c12 t = bords l := by unfold m_law_right_c12; rw [zt, l1, b2]
  have e13 : m_law_right_c13 t = blks (bords l) := by unfold m_law_right_c13; rw [zt, l1, b4]
  have e15 : ((m_law_right_c15 t).length : Int) = c := by unfold m_law_right_c15; rw [zt, l1, b6, hc]
  have ed : (lcV t.2.1 (fun x => true) (fun x => (((2 : Int) * (t, x).2.1), (((2 : Int) * (t, x).2.2) + (1 : Int))))) = Sx.dbl l := by
    rw [l1]
    exact lcV_t _ _
  have e17 : m_law_right_c17 t = (bords l).length := by
    unfold m_law_right_c17
    rw [ed, zt, b8, b9]
  have h14 : m_law_right_h14 t = false := by
    unfold m_law_right_h14
    rw [e12, e13, l2]
    show ((!(decide (_ ≤ _) && decide (_ ≤ _))) || decide _) = false
    rw [decide_eq_true (show ((bords l).length : Int) ≤ 2 * c by omega), decide_eq_true (show 2 * c ≤ 2 * ((bords l).length : Int) by omega), decide_eq_false (show ¬ c < ((blks (bords l)).length : Int) by omega)]
    rfl
  have h16 : m_law_right_h16 t = false := by
    unfold m_law_right_h16
    rw [e15, l2, df_t.mpr rfl]
    rfl
  have h18 : m_law_right_h18 t = false := by
    unfold m_law_right_h18
    rw [e17, e12, df_t.mpr rfl]
    rfl
  have mz : ∀ i : Int, 0 ≤ i → i ≤ z → CMulX 2 i := fun i i0 i1 => mul_log (a := 1) (b := 9000) (by decide) (by have := small_log i0 (show i ≤ 1000000000000000000000000000000 by omega); omega) (by decide)
  refine ⟨⟨by dsimp only; rw [zt, l1]; exact b1, by dsimp only; rw [zt, l1]; exact b3, ?_, fun _ => ?_, fun _ => ⟨by dsimp only; rw [zt, l1]; exact b5, fun _ => ⟨?_, fun x hx => ?_, ?_, fun _ => trivial, trivial⟩, trivial⟩, trivial⟩, ?_⟩
  · show CMulX 2 t.2.2
    rw [l2]
    exact mul_ok (by omega)
  · show CMulX 2 ((m_law_right_c12 t).length : Int)
    rw [e12]
    exact mul_ok (by omega)
  · show CMulX 2 (m_law_right_v_size_here_2 t.1.1)
    rw [zt]
    exact mz z (by omega) (by omega)
  · rw [l1] at hx
    have hr := hs.1 x hx
    exact ⟨trivial, fun _ => ⟨mz x.1 (by omega) (by omega), mz x.2 (by omega) (by omega), trivial⟩⟩
  · show mcost_p (2 * m_law_right_v_size_here_2 t.1.1, (lcV t.2.1 (fun x => true) (fun x => (((2 : Int) * (t, x).2.1), (((2 : Int) * (t, x).2.2) + (1 : Int))))), ())
    rw [ed, zt]
    exact b7
  · unfold m_law_right_L11r
    rw [h14, h16, h18]
    rfl
theorem right_ok {n : Nat} {sc b : List Int} (g : Good n b) (hn : n ≤ 400000) : m_law_right_p (sc, b, ()) ∧ (m_law_right (sc, b, ())).2 = true := by
  have big := line_big
  obtain ⟨s, es⟩ : ∃ s : m_law_right_S, s = (sc, b, ()) := ⟨_, rfl⟩
  have s2 : s.2.1 = b := by rw [es]
  rw [← es]
  rw [← s2] at g
  obtain ⟨p1, g1, a1, b1⟩ := size_ok (sc := s.1) g (by omega)
  have f1 : m_law_size (s.1, s.2.1, ()) = m_law_right_c1 s := rfl
  rw [f1] at g1 a1 b1
  have cp30 : CPowX (10 : Int) (30 : Int) := pow_ok (k := 4) (by decide) (by decide) (by decide) (by decide)
  have cd : CDivW ((10 : Int) ^ ((30 : Int)).toNat) (3 : Int) := ⟨by decide, by decide⟩
  obtain ⟨z, hz⟩ : ∃ z : Int, m_law_right_v_size_here_2 s = z := ⟨_, rfl⟩
  have zz : 1 ≤ z ∧ z ≤ 333333333333333333333333333333 := by
    rw [← hz]
    unfold m_law_right_v_size_here_2
    rw [ten30]
    omega
  have z3 : z ≤ 1000000000000000000000000000000 := by omega
  obtain ⟨p3, g3, a3, b3⟩ := draw (c := 2) g1 (by omega) (by decide) (by decide)
  have f3 : m_law_draw ((m_law_right_c1 s).1, 2, ()) = m_law_right_c3 s := rfl
  rw [f3] at g3 a3 b3
  have i3 : IxOk ([(6 : Int), (50 : Int)] : List Int) (m_law_right_c3 s).2 := len4 (n := 2) rfl a3 b3
  have v3 := ix_all (d := (0 : Int)) (fun x => 1 ≤ x ∧ x ≤ 100) i3 (by intro x hx; simp at hx; omega)
  have g4 : Good (n + 5) (m_law_right_v_bag_here_4 s) := by
    unfold m_law_right_v_bag_here_4
    split
    · exact g1.mono (by omega)
    · exact g3.mono (by omega)
  have v5 : 1 ≤ m_law_right_v_most_5 s ∧ m_law_right_v_most_5 s ≤ 100 := by
    unfold m_law_right_v_most_5
    split
    · exact ⟨by decide, by decide⟩
    · exact v3
  obtain ⟨p6, g6, q6, l6⟩ := runs_ok v5.1 v5.2 g4 (by omega) zz.1 z3
  have f6 : m_law_runs (m_law_right_v_bag_here_4 s, z, m_law_right_v_most_5 s, ()) = m_law_right_c6 s := by unfold m_law_right_c6; rw [hz]
  rw [f6] at g6 q6 l6
  obtain ⟨p7, g7, q7, l7⟩ := runs_ok v5.1 v5.2 g6 (by omega) zz.1 z3
  have f7 : m_law_runs ((m_law_right_c6 s).1, z, m_law_right_v_most_5 s, ()) = m_law_right_c7 s := by unfold m_law_right_c7; rw [hz]
  rw [f7] at g7 q7 l7
  obtain ⟨p8, e8⟩ := cost_ok q6 zz.1 z3 (by omega)
  have f8 : mcost (z, (m_law_right_c6 s).2, ()) = m_law_right_c8 s := by unfold m_law_right_c8; rw [hz]
  rw [f8] at e8
  obtain ⟨p9, e9⟩ := cost_ok q7 zz.1 z3 (by omega)
  have f9 : mcost (z, (m_law_right_c7 s).2, ()) = m_law_right_c9 s := by unfold m_law_right_c9; rw [hz]
  rw [f9] at e9
  have loop := loop_none (c := fun m x => m_law_right_L11c ((s, m), x)) (r := fun m x => m_law_right_L11r ((s, m), x)) (step := fun m x => m_law_right_L11s ((s, m), x)) (fun _ _ => True) (m_law_right_L11x s) 0 (m_law_right_L11i s) trivial fun j m x _ hx _ => by
    have hx' : x ∈ [((m_law_right_c6 s).2, m_law_right_c8 s), ((m_law_right_c7 s).2, m_law_right_c9 s)] := hx
    rcases List.mem_cons.mp hx' with e | e
    · obtain ⟨o1, o2⟩ := pair_ok (s := s) hz zz.1 zz.2 (t := ((s, m), x)) rfl e q6 l6 e8
      exact ⟨o1, o2, trivial⟩
    · obtain ⟨o1, o2⟩ := pair_ok (s := s) hz zz.1 zz.2 (t := ((s, m), x)) rfl (List.mem_singleton.mp e) q7 l7 e9
      exact ⟨o1, o2, trivial⟩
  obtain ⟨lc, lr⟩ := loop
  rw [← LoopR_eq] at lr
  have lr' : m_law_right_L11R s = none := lr
  have q6' : Sx.Sel z (m_law_right_c6 s).2 := q6
  have q7' : Sx.Sel z (m_law_right_c7 s).2 := q7
  have ef : m_law_right_v_far_19 s = Sx.mov (z + 2) (m_law_right_c7 s).2 := by
    unfold m_law_right_v_far_19
    rw [lcV_t]
    unfold Sx.mov
    refine List.map_congr_left fun x _ => ?_
    show (x.1 + m_law_right_v_size_here_2 s + 2, x.2 + m_law_right_v_size_here_2 s + 2) = (x.1 + (z + 2), x.2 + (z + 2))
    rw [hz, Int.add_assoc, Int.add_assoc]
  have lf : (m_law_right_v_far_19 s).length ≤ 100 := by rw [ef]; unfold Sx.mov; rw [List.length_map]; exact l7
  have qf : Sel (2 * z + 2) ((m_law_right_c6 s).2 ++ m_law_right_v_far_19 s) := by
    rw [ef]
    exact Sx.sel_far q6' q7' (by omega)
  obtain ⟨p20, e20⟩ := cost_ok qf (by omega) (by omega) (by rw [List.length_append]; omega)
  have f20 : mcost (2 * z + 2, (m_law_right_c6 s).2 ++ m_law_right_v_far_19 s, ()) = m_law_right_c20 s := by unfold m_law_right_c20; rw [hz]
  rw [f20, ef, Sx.cost_far q6' q7', ← e8, ← e9] at e20
  obtain ⟨p21, g21, q21, l21⟩ := runs_ok (M := 100) (by decide) (by decide) g7 (by omega) zz.1 z3
  have f21 : m_law_runs ((m_law_right_c7 s).1, z, 100, ()) = m_law_right_c21 s := by unfold m_law_right_c21; rw [hz]
  rw [f21] at g21 q21 l21
  obtain ⟨p22, g22, q22, l22⟩ := runs_ok (M := 100) (by decide) (by decide) g21 (by omega) zz.1 z3
  have f22 : m_law_runs ((m_law_right_c21 s).1, z, 100, ()) = m_law_right_c22 s := by unfold m_law_right_c22; rw [hz]
  rw [f22] at g22 q22 l22
  obtain ⟨p23, e23⟩ := cost_ok q21 zz.1 z3 (by omega)
  have f23 : mcost (z, (m_law_right_c21 s).2, ()) = m_law_right_c23 s := by unfold m_law_right_c23; rw [hz]
  rw [f23] at e23
  obtain ⟨p24, e24⟩ := cost_ok q22 zz.1 z3 (by omega)
  have f24 : mcost (z, (m_law_right_c22 s).2, ()) = m_law_right_c24 s := by unfold m_law_right_c24; rw [hz]
  rw [f24] at e24
  have all : Sel z (m_law_right_v_one_28 s) ∧ (m_law_right_v_one_28 s).length ≤ 100 ∧ Sel z (m_law_right_v_two_29 s) ∧ (m_law_right_v_two_29 s).length ≤ 100 ∧ m_law_right_v_prices_30 s = [costB (bords (m_law_right_v_one_28 s)), costB (bords (m_law_right_v_two_29 s))] := by
    unfold m_law_right_v_one_28 m_law_right_v_two_29 m_law_right_v_prices_30
    by_cases h : m_law_right_h26 s = true
    · simp only [if_pos h]
      refine ⟨q21, l21, q22, l22, ?_⟩
      unfold m_law_right_v_prices_25
      rw [e23, e24]
    · simp only [if_neg h]
      refine ⟨q6, l6, q7, l7, ?_⟩
      unfold m_law_right_v_prices_10
      rw [e8, e9]
  obtain ⟨q28, l28, q29, l29, e30⟩ := all
  obtain ⟨p31, e31⟩ := diff_ok q28 q29 zz.1 z3 (by omega) (by omega)
  have f31 : mdifference (z, m_law_right_v_one_28 s, m_law_right_v_two_29 s, ()) = m_law_right_c31 s := by unfold m_law_right_c31; rw [hz]
  rw [f31] at e31
  have q28' : Sx.Sel z (m_law_right_v_one_28 s) := q28
  have q29' : Sx.Sel z (m_law_right_v_two_29 s) := q29
  have q31 : Sel z (m_law_right_c31 s) := by rw [e31]; exact Sx.sel_diff q28' q29'
  have l31 : (m_law_right_c31 s).length ≤ 200 := by
    rw [e31]
    have := Sx.len_diff (m_law_right_v_one_28 s) (m_law_right_v_two_29 s)
    omega
  obtain ⟨p32, e32⟩ := cost_ok q31 zz.1 z3 (by omega)
  have f32 : mcost (z, m_law_right_c31 s, ()) = m_law_right_c32 s := by unfold m_law_right_c32; rw [hz]
  rw [f32] at e32
  have cdf := Sx.cost_diff q28' q29'
  rw [← e31, ← e32] at cdf
  have c1 : (!(dfInt).eq (m_law_right_c20 s) ((m_law_right_v_prices_10 s)).sum) = false := by
    have : (m_law_right_v_prices_10 s).sum = m_law_right_c8 s + m_law_right_c9 s := by
      unfold m_law_right_v_prices_10
      simp
    rw [this, e20, df_t.mpr rfl]
    rfl
  have c2 : decide ((m_law_right_v_prices_30 s).sum < m_law_right_c32 s) = false := by
    have : (m_law_right_v_prices_30 s).sum = costB (bords (m_law_right_v_one_28 s)) + costB (bords (m_law_right_v_two_29 s)) := by
      rw [e30]
      simp
    rw [this]
    exact decide_eq_false (by omega)
  have i0 : IxOk (m_law_right_v_prices_30 s) 0 := len4 (n := 2) (by rw [e30]; rfl) (by decide) (by decide)
  have i1 : IxOk (m_law_right_v_prices_30 s) 1 := len4 (n := 2) (by rw [e30]; rfl) (by decide) (by decide)
  refine ⟨⟨p1, cp30, cd, fun _ => p3, fun _ => i3, ?_, ?_, ?_, ?_, lc, fun _ => ⟨fun _ _ => ⟨trivial, fun _ => trivial⟩, ?_, ?_, ?_, ?_, trivial⟩, trivial⟩, ?_⟩
  · dsimp only; rw [hz]; exact p6
  · dsimp only; rw [hz]; exact p7
  · dsimp only; rw [hz]; exact p8
  · dsimp only; rw [hz]; exact p9
  · show CMulX 2 (m_law_right_v_size_here_2 s)
    rw [hz]
    exact mul_log (a := 1) (b := 9000) (by decide) (by have := small_log (show 0 ≤ z by omega) z3; omega) (by decide)
  · show (m_law_right_c6 s).2.length + (m_law_right_v_far_19 s).length ≤ sizeLine
    omega
  · show mcost_p (2 * m_law_right_v_size_here_2 s + 2, (m_law_right_c6 s).2 ++ m_law_right_v_far_19 s, ())
    rw [hz]; exact p20
  · show if _ then _ else _
    rw [if_neg (by rw [c1]; exact Bool.false_ne_true)]
    refine ⟨fun _ => ?_, fun _ => ?_, fun _ => ?_, fun _ => ?_, ?_, ?_, ?_, trivial⟩
    · try dsimp only
      rw [hz]; exact p21
    · try dsimp only
      rw [hz]; exact p22
    · try dsimp only
      rw [hz]; exact p23
    · try dsimp only
      rw [hz]; exact p24
    · try dsimp only
      rw [hz]; exact p31
    · try dsimp only
      rw [hz]; exact p32
    · show if _ then _ else _
      rw [if_neg (by rw [c2]; exact Bool.false_ne_true)]
      exact ⟨fun _ => i0, fun _ => i1, trivial⟩
  · unfold m_law_right
    rw [hide_eq, lr', c1, c2]
    show ((!((dfList (dfT2 dfInt dfInt))).eq (m_law_right_c31 s) ([] : List (Int × Int))) || ((dfInt).eq (ixI (0 : Int) (m_law_right_v_prices_30 s) (0 : Int)) (ixI (0 : Int) (m_law_right_v_prices_30 s) (1 : Int)))) = true
    by_cases h : m_law_right_c31 s = []
    · have e := Sx.diff_nil q28' q29' (by rw [← e31]; exact h)
      rw [e30, ← e, Bool.or_eq_true]
      right
      exact df_t.mpr rfl
    · rw [df_f.mpr h]
      rfl
theorem cut_subl {α : Type} (xs : List α) (lo hi : Option Int) : (cutL xs lo hi).Sublist xs := (List.take_sublist _ _).trans (List.drop_sublist _ _)
theorem law_main (ns : List Int) (hl : ns.length ≤ 63) (hb : ∀ z ∈ ns, Builtin.Int.intBits z ≤ 1048576) : mlaw_p (ns, ()) ∧ mlaw (ns, ()) = true := by
  have big := line_big
  obtain ⟨s, es⟩ : ∃ s : mlaw_S, s = (ns, ()) := ⟨_, rfl⟩
  rw [← es]
  have s1 : s.1 = ns := by rw [es]
  have c0 : (cutL s.1 none (some (7 : Int))).length ≤ 63 := Nat.le_trans (cutL_len _ _ _) (by rw [s1]; exact hl)
  have e1 : mlaw_c1 s = [((s.1).length : Int)] ++ cutL s.1 none (some (7 : Int)) := by
    unfold mlaw_c1 m_law_cells
    rw [hide_eq]
  have l1 : (mlaw_c1 s).length ≤ 64 := by
    rw [e1, List.length_append]
    show 1 + _ ≤ 64
    omega
  have hc : ∀ y ∈ mlaw_c1 s, Builtin.Int.intBits y ≤ 1048576 := fun y hy => by
    rw [e1] at hy
    rcases List.mem_append.mp hy with hy | hy
    · rw [List.mem_singleton.mp hy, s1]
      have p7 : (2 : Int) ^ 7 = 128 := by decide
      exact Nat.le_trans (bits_lt (v := (ns.length : Int)) (k := 7) (by omega) (by rw [p7]; omega)) (by decide)
    · have := (cut_subl _ _ _).subset hy
      rw [s1] at this
      exact hb y this
  have hx : ∀ x ∈ mlaw_L2x s, 0 ≤ x.1 ∧ x.1 < 1000 ∧ x.2 ∈ mlaw_c1 s := fun x h => by
    obtain ⟨k, hk⟩ := List.mem_iff_getElem?.mp (show x ∈ enumL (cutL (mlaw_c1 s) none _) from h)
    obtain ⟨y, h1, h2⟩ := enumL_get _ _ _ hk
    have h4 : ∀ o, (cutL (mlaw_c1 s) none o).length ≤ 64 := fun o => Nat.le_trans (cutL_len _ _ _) l1
    have h3 := Nat.lt_of_lt_of_le (List.getElem?_eq_some_iff.mp h1).1 (h4 _)
    rw [h2]
    exact ⟨by show 0 ≤ (k : Int); omega, by show (k : Int) < 1000; omega, (cut_subl _ _ _).subset (List.mem_of_getElem? h1)⟩
  have main := loop_none (c := fun m x => mlaw_L2c ((s, m), x)) (r := fun m x => mlaw_L2r ((s, m), x)) (step := fun m x => mlaw_L2s ((s, m), x)) (fun _ _ => True) (mlaw_L2x s) 0 (mlaw_L2i s) trivial fun j m x _ hm _ => by
    obtain ⟨v1, v2, v3⟩ := hx x hm
    obtain ⟨p1, g1⟩ := bag_ok (hc _ v3) v1 (by omega)
    obtain ⟨p2, e2⟩ := right_ok (sc := s.1) g1 (by omega)
    have e5 : mlaw_h5 ((s, m), x) = false := by
      show (!(mlaw_c4 ((s, m), x)).2) = false
      rw [show (mlaw_c4 ((s, m), x)).2 = true from e2]
      rfl
    refine ⟨⟨p1, p2, fun _ => trivial, trivial⟩, ?_, trivial⟩
    show orElseO (if mlaw_h5 ((s, m), x) = true then _ else none) none = none
    rw [e5]
    rfl
  obtain ⟨lc, lr⟩ := main
  rw [← LoopR_eq] at lr
  have lr' : mlaw_L2R s = none := lr
  refine ⟨⟨⟨?_, trivial⟩, lc, fun _ => trivial, trivial⟩, ?_⟩
  · show 1 + (cutL s.1 none (some (7 : Int))).length ≤ sizeLine
    omega
  · unfold mlaw
    rw [hide_eq, lr']
    rfl
theorem law_pre (ns : List Int) (hl : ns.length ≤ 63) (hb : ∀ z ∈ ns, Builtin.Int.intBits z ≤ 1048576) : mlaw_p (ns, ()) := (law_main ns hl hb).1
theorem law_true (ns : List Int) (hl : ns.length ≤ 63) (hb : ∀ z ∈ ns, Builtin.Int.intBits z ≤ 1048576) : mlaw (ns, ()) = true := (law_main ns hl hb).2
end Lw

namespace Lw
open PySem PySem.Spec PyProof.Rows L2 Dx
section
theorem all_mk {l : PySem.W.OpenLaw} {w : World} {K : PySem.W.Frag} {h : Heap} {mg : Str → Option Value} {fa : Addr} {f32 : Addr} {od32 an32 : Option Addr} {sl32 : Array (Option Value)} {oc32 kV32 dc32 pm32 cd32 ct32 : Value} {f30 : Addr} {od30 an30 : Option Addr} {sl30 : Array (Option Value)} {oc30 kV30 dc30 pm30 cd30 ct30 : Value} {f31 : Addr} {od31 an31 : Option Addr} {sl31 : Array (Option Value)} {oc31 kV31 dc31 pm31 cd31 ct31 : Value} {f34 : Addr} {od34 an34 : Option Addr} {sl34 : Array (Option Value)} {oc34 kV34 dc34 pm34 cd34 ct34 : Value} {f33 : Addr} {od33 an33 : Option Addr} {sl33 : Array (Option Value)} {oc33 kV33 dc33 pm33 cd33 ct33 : Value} {f6 : Addr} {od6 an6 : Option Addr} {sl6 : Array (Option Value)} {oc6 kV6 dc6 pm6 cd6 ct6 : Value} {f7 : Addr} {od7 an7 : Option Addr} {sl7 : Array (Option Value)} {oc7 kV7 dc7 pm7 cd7 ct7 : Value} {f8 : Addr} {od8 an8 : Option Addr} {sl8 : Array (Option Value)} {oc8 kV8 dc8 pm8 cd8 ct8 : Value} {f9 : Addr} {od9 an9 : Option Addr} {sl9 : Array (Option Value)} {oc9 kV9 dc9 pm9 cd9 ct9 : Value} {f10 : Addr} {od10 an10 : Option Addr} {sl10 : Array (Option Value)} {oc10 kV10 dc10 pm10 cd10 ct10 : Value} {f11 : Addr} {od11 an11 : Option Addr} {sl11 : Array (Option Value)} {oc11 kV11 dc11 pm11 cd11 ct11 : Value} {f13 : Addr} {od13 an13 : Option Addr} {sl13 : Array (Option Value)} {oc13 kV13 dc13 pm13 cd13 ct13 : Value} {f18 : Addr} {od18 an18 : Option Addr} {sl18 : Array (Option Value)} {oc18 kV18 dc18 pm18 cd18 ct18 : Value} {f19 : Addr} {od19 an19 : Option Addr} {sl19 : Array (Option Value)} {oc19 kV19 dc19 pm19 cd19 ct19 : Value} {f20 : Addr} {od20 an20 : Option Addr} {sl20 : Array (Option Value)} {oc20 kV20 dc20 pm20 cd20 ct20 : Value} {f14 : Addr} {od14 an14 : Option Addr} {sl14 : Array (Option Value)} {oc14 kV14 dc14 pm14 cd14 ct14 : Value} {f15 : Addr} {od15 an15 : Option Addr} {sl15 : Array (Option Value)} {oc15 kV15 dc15 pm15 cd15 ct15 : Value} {f22 : Addr} {od22 an22 : Option Addr} {sl22 : Array (Option Value)} {oc22 kV22 dc22 pm22 cd22 ct22 : Value} {f23 : Addr} {od23 an23 : Option Addr} {sl23 : Array (Option Value)} {oc23 kV23 dc23 pm23 cd23 ct23 : Value} {f24 : Addr} {od24 an24 : Option Addr} {sl24 : Array (Option Value)} {oc24 kV24 dc24 pm24 cd24 ct24 : Value} {f25 : Addr} {od25 an25 : Option Addr} {sl25 : Array (Option Value)} {oc25 kV25 dc25 pm25 cd25 ct25 : Value} {f26 : Addr} {od26 an26 : Option Addr} {sl26 : Array (Option Value)} {oc26 kV26 dc26 pm26 cd26 ct26 : Value} {f27 : Addr} {od27 an27 : Option Addr} {sl27 : Array (Option Value)} {oc27 kV27 dc27 pm27 cd27 ct27 : Value} {f28 : Addr} {od28 an28 : Option Addr} {sl28 : Array (Option Value)} {oc28 kV28 dc28 pm28 cd28 ct28 : Value} {f12 : Addr} {od12 an12 : Option Addr} {sl12 : Array (Option Value)} {oc12 kV12 dc12 pm12 cd12 ct12 : Value} {f16 : Addr} {od16 an16 : Option Addr} {sl16 : Array (Option Value)} {oc16 kV16 dc16 pm16 cd16 ct16 : Value} {f35 : Addr} {od35 an35 : Option Addr} {sl35 : Array (Option Value)} {oc35 kV35 dc35 pm35 cd35 ct35 : Value} {f36 : Addr} {od36 an36 : Option Addr} {sl36 : Array (Option Value)} {oc36 kV36 dc36 pm36 cd36 ct36 : Value} {t_MOST_ITEMS : Tok} (X : K.In h) (G : h.Ns mainGlobals mg) (hfa : mg "law" = some (.ref fa))
    (a32 : PySem.W.nsIn K mainGlobals "_law_cells" = some (some (.ref f32))) (l32 : K.lookup f32 = some ⟨oc32, od32, .func (PySem.W.fnOf "_law_cells" "_law_cells" (defArgs (topS 32)) (defBody (topS 32)) (defScope (topS 32)) .none kV32 dc32 pm32 an32 cd32 ct32), sl32⟩) (c32 : PySem.W.codeIn K cd32 "_law_cells" = true) (k32 : PySem.W.keepIn K (.ref f32) = true)
    (a30 : PySem.W.nsIn K mainGlobals "_law_bag" = some (some (.ref f30))) (l30 : K.lookup f30 = some ⟨oc30, od30, .func (PySem.W.fnOf "_law_bag" "_law_bag" (defArgs (topS 30)) (defBody (topS 30)) (defScope (topS 30)) .none kV30 dc30 pm30 an30 cd30 ct30), sl30⟩) (c30 : PySem.W.codeIn K cd30 "_law_bag" = true) (k30 : PySem.W.keepIn K (.ref f30) = true)
    (a31 : PySem.W.nsIn K mainGlobals "_law_draw" = some (some (.ref f31))) (l31 : K.lookup f31 = some ⟨oc31, od31, .func (PySem.W.fnOf "_law_draw" "_law_draw" (defArgs (topS 31)) (defBody (topS 31)) (defScope (topS 31)) .none kV31 dc31 pm31 an31 cd31 ct31), sl31⟩) (c31 : PySem.W.codeIn K cd31 "_law_draw" = true) (k31 : PySem.W.keepIn K (.ref f31) = true)
    (a34 : PySem.W.nsIn K mainGlobals "_law_size" = some (some (.ref f34))) (l34 : K.lookup f34 = some ⟨oc34, od34, .func (PySem.W.fnOf "_law_size" "_law_size" (defArgs (topS 34)) (defBody (topS 34)) (defScope (topS 34)) .none kV34 dc34 pm34 an34 cd34 ct34), sl34⟩) (c34 : PySem.W.codeIn K cd34 "_law_size" = true) (k34 : PySem.W.keepIn K (.ref f34) = true)
    (a33 : PySem.W.nsIn K mainGlobals "_law_runs" = some (some (.ref f33))) (l33 : K.lookup f33 = some ⟨oc33, od33, .func (PySem.W.fnOf "_law_runs" "_law_runs" (defArgs (topS 33)) (defBody (topS 33)) (defScope (topS 33)) .none kV33 dc33 pm33 an33 cd33 ct33), sl33⟩) (c33 : PySem.W.codeIn K cd33 "_law_runs" = true) (k33 : PySem.W.keepIn K (.ref f33) = true)
    (a6 : PySem.W.nsIn K mainGlobals "is_integer" = some (some (.ref f6))) (l6 : K.lookup f6 = some ⟨oc6, od6, .func (PySem.W.fnOf "is_integer" "is_integer" (defArgs (topS 6)) (defBody (topS 6)) (defScope (topS 6)) .none kV6 dc6 pm6 an6 cd6 ct6), sl6⟩) (c6 : PySem.W.codeIn K cd6 "is_integer" = true) (k6 : PySem.W.keepIn K (.ref f6) = true)
    (a7 : PySem.W.nsIn K mainGlobals "check_items" = some (some (.ref f7))) (l7 : K.lookup f7 = some ⟨oc7, od7, .func (PySem.W.fnOf "check_items" "check_items" (defArgs (topS 7)) (defBody (topS 7)) (defScope (topS 7)) .none kV7 dc7 pm7 an7 cd7 ct7), sl7⟩) (c7 : PySem.W.codeIn K cd7 "check_items" = true) (k7 : PySem.W.keepIn K (.ref f7) = true)
    (a8 : PySem.W.nsIn K mainGlobals "is_run" = some (some (.ref f8))) (l8 : K.lookup f8 = some ⟨oc8, od8, .func (PySem.W.fnOf "is_run" "is_run" (defArgs (topS 8)) (defBody (topS 8)) (defScope (topS 8)) .none kV8 dc8 pm8 an8 cd8 ct8), sl8⟩) (c8 : PySem.W.codeIn K cd8 "is_run" = true) (k8 : PySem.W.keepIn K (.ref f8) = true)
    (a9 : PySem.W.nsIn K mainGlobals "are_runs" = some (some (.ref f9))) (l9 : K.lookup f9 = some ⟨oc9, od9, .func (PySem.W.fnOf "are_runs" "are_runs" (defArgs (topS 9)) (defBody (topS 9)) (defScope (topS 9)) .none kV9 dc9 pm9 an9 cd9 ct9), sl9⟩) (c9 : PySem.W.codeIn K cd9 "are_runs" = true) (k9 : PySem.W.keepIn K (.ref f9) = true)
    (a10 : PySem.W.nsIn K mainGlobals "check_selection" = some (some (.ref f10))) (l10 : K.lookup f10 = some ⟨oc10, od10, .func (PySem.W.fnOf "check_selection" "check_selection" (defArgs (topS 10)) (defBody (topS 10)) (defScope (topS 10)) .none kV10 dc10 pm10 an10 cd10 ct10), sl10⟩) (c10 : PySem.W.codeIn K cd10 "check_selection" = true) (k10 : PySem.W.keepIn K (.ref f10) = true)
    (a11 : PySem.W.nsIn K mainGlobals "borders_in" = some (some (.ref f11))) (l11 : K.lookup f11 = some ⟨oc11, od11, .func (PySem.W.fnOf "borders_in" "borders_in" (defArgs (topS 11)) (defBody (topS 11)) (defScope (topS 11)) .none kV11 dc11 pm11 an11 cd11 ct11), sl11⟩) (c11 : PySem.W.codeIn K cd11 "borders_in" = true) (k11 : PySem.W.keepIn K (.ref f11) = true)
    (a13 : PySem.W.nsIn K mainGlobals "blocks_in" = some (some (.ref f13))) (l13 : K.lookup f13 = some ⟨oc13, od13, .func (PySem.W.fnOf "blocks_in" "blocks_in" (defArgs (topS 13)) (defBody (topS 13)) (defScope (topS 13)) .none kV13 dc13 pm13 an13 cd13 ct13), sl13⟩) (c13 : PySem.W.codeIn K cd13 "blocks_in" = true) (k13 : PySem.W.keepIn K (.ref f13) = true)
    (a18 : PySem.W.nsIn K mainGlobals "cost_of_borders" = some (some (.ref f18))) (l18 : K.lookup f18 = some ⟨oc18, od18, .func (PySem.W.fnOf "cost_of_borders" "cost_of_borders" (defArgs (topS 18)) (defBody (topS 18)) (defScope (topS 18)) .none kV18 dc18 pm18 an18 cd18 ct18), sl18⟩) (c18 : PySem.W.codeIn K cd18 "cost_of_borders" = true) (k18 : PySem.W.keepIn K (.ref f18) = true)
    (a19 : PySem.W.nsIn K mainGlobals "cost_of" = some (some (.ref f19))) (l19 : K.lookup f19 = some ⟨oc19, od19, .func (PySem.W.fnOf "cost_of" "cost_of" (defArgs (topS 19)) (defBody (topS 19)) (defScope (topS 19)) .none kV19 dc19 pm19 an19 cd19 ct19), sl19⟩) (c19 : PySem.W.codeIn K cd19 "cost_of" = true) (k19 : PySem.W.keepIn K (.ref f19) = true)
    (a20 : PySem.W.nsIn K mainGlobals "cost" = some (some (.ref f20))) (l20 : K.lookup f20 = some ⟨oc20, od20, .func (PySem.W.fnOf "cost" "cost" (defArgs (topS 20)) (defBody (topS 20)) (defScope (topS 20)) .none kV20 dc20 pm20 an20 cd20 ct20), sl20⟩) (c20 : PySem.W.codeIn K cd20 "cost" = true) (k20 : PySem.W.keepIn K (.ref f20) = true)
    (a14 : PySem.W.nsIn K mainGlobals "borders_of" = some (some (.ref f14))) (l14 : K.lookup f14 = some ⟨oc14, od14, .func (PySem.W.fnOf "borders_of" "borders_of" (defArgs (topS 14)) (defBody (topS 14)) (defScope (topS 14)) .none kV14 dc14 pm14 an14 cd14 ct14), sl14⟩) (c14 : PySem.W.codeIn K cd14 "borders_of" = true) (k14 : PySem.W.keepIn K (.ref f14) = true)
    (a15 : PySem.W.nsIn K mainGlobals "blocks_of" = some (some (.ref f15))) (l15 : K.lookup f15 = some ⟨oc15, od15, .func (PySem.W.fnOf "blocks_of" "blocks_of" (defArgs (topS 15)) (defBody (topS 15)) (defScope (topS 15)) .none kV15 dc15 pm15 an15 cd15 ct15), sl15⟩) (c15 : PySem.W.codeIn K cd15 "blocks_of" = true) (k15 : PySem.W.keepIn K (.ref f15) = true)
    (a22 : PySem.W.nsIn K mainGlobals "check_list" = some (some (.ref f22))) (l22 : K.lookup f22 = some ⟨oc22, od22, .func (PySem.W.fnOf "check_list" "check_list" (defArgs (topS 22)) (defBody (topS 22)) (defScope (topS 22)) .none kV22 dc22 pm22 an22 cd22 ct22), sl22⟩) (c22 : PySem.W.codeIn K cd22 "check_list" = true) (k22 : PySem.W.keepIn K (.ref f22) = true)
    (a23 : PySem.W.nsIn K mainGlobals "blocks_with" = some (some (.ref f23))) (l23 : K.lookup f23 = some ⟨oc23, od23, .func (PySem.W.fnOf "blocks_with" "blocks_with" (defArgs (topS 23)) (defBody (topS 23)) (defScope (topS 23)) .none kV23 dc23 pm23 an23 cd23 ct23), sl23⟩) (c23 : PySem.W.codeIn K cd23 "blocks_with" = true) (k23 : PySem.W.keepIn K (.ref f23) = true)
    (a24 : PySem.W.nsIn K mainGlobals "tokens_in" = some (some (.ref f24))) (l24 : K.lookup f24 = some ⟨oc24, od24, .func (PySem.W.fnOf "tokens_in" "tokens_in" (defArgs (topS 24)) (defBody (topS 24)) (defScope (topS 24)) .none kV24 dc24 pm24 an24 cd24 ct24), sl24⟩) (c24 : PySem.W.codeIn K cd24 "tokens_in" = true) (k24 : PySem.W.keepIn K (.ref f24) = true)
    (a25 : PySem.W.nsIn K mainGlobals "cover_with" = some (some (.ref f25))) (l25 : K.lookup f25 = some ⟨oc25, od25, .func (PySem.W.fnOf "cover_with" "cover_with" (defArgs (topS 25)) (defBody (topS 25)) (defScope (topS 25)) .none kV25 dc25 pm25 an25 cd25 ct25), sl25⟩) (c25 : PySem.W.codeIn K cd25 "cover_with" = true) (k25 : PySem.W.keepIn K (.ref f25) = true)
    (a26 : PySem.W.nsIn K mainGlobals "best_cover" = some (some (.ref f26))) (l26 : K.lookup f26 = some ⟨oc26, od26, .func (PySem.W.fnOf "best_cover" "best_cover" (defArgs (topS 26)) (defBody (topS 26)) (defScope (topS 26)) .none kV26 dc26 pm26 an26 cd26 ct26), sl26⟩) (c26 : PySem.W.codeIn K cd26 "best_cover" = true) (k26 : PySem.W.keepIn K (.ref f26) = true)
    (a27 : PySem.W.nsIn K mainGlobals "clicks_of" = some (some (.ref f27))) (l27 : K.lookup f27 = some ⟨oc27, od27, .func (PySem.W.fnOf "clicks_of" "clicks_of" (defArgs (topS 27)) (defBody (topS 27)) (defScope (topS 27)) .none kV27 dc27 pm27 an27 cd27 ct27), sl27⟩) (c27 : PySem.W.codeIn K cd27 "clicks_of" = true) (k27 : PySem.W.keepIn K (.ref f27) = true)
    (a28 : PySem.W.nsIn K mainGlobals "shortest_clicks" = some (some (.ref f28))) (l28 : K.lookup f28 = some ⟨oc28, od28, .func (PySem.W.fnOf "shortest_clicks" "shortest_clicks" (defArgs (topS 28)) (defBody (topS 28)) (defScope (topS 28)) .none kV28 dc28 pm28 an28 cd28 ct28), sl28⟩) (c28 : PySem.W.codeIn K cd28 "shortest_clicks" = true) (k28 : PySem.W.keepIn K (.ref f28) = true)
    (a12 : PySem.W.nsIn K mainGlobals "from_borders" = some (some (.ref f12))) (l12 : K.lookup f12 = some ⟨oc12, od12, .func (PySem.W.fnOf "from_borders" "from_borders" (defArgs (topS 12)) (defBody (topS 12)) (defScope (topS 12)) .none kV12 dc12 pm12 an12 cd12 ct12), sl12⟩) (c12 : PySem.W.codeIn K cd12 "from_borders" = true) (k12 : PySem.W.keepIn K (.ref f12) = true)
    (a16 : PySem.W.nsIn K mainGlobals "difference" = some (some (.ref f16))) (l16 : K.lookup f16 = some ⟨oc16, od16, .func (PySem.W.fnOf "difference" "difference" (defArgs (topS 16)) (defBody (topS 16)) (defScope (topS 16)) .none kV16 dc16 pm16 an16 cd16 ct16), sl16⟩) (c16 : PySem.W.codeIn K cd16 "difference" = true) (k16 : PySem.W.keepIn K (.ref f16) = true)
    (a35 : PySem.W.nsIn K mainGlobals "_law_right" = some (some (.ref f35))) (l35 : K.lookup f35 = some ⟨oc35, od35, .func (PySem.W.fnOf "_law_right" "_law_right" (defArgs (topS 35)) (defBody (topS 35)) (defScope (topS 35)) .none kV35 dc35 pm35 an35 cd35 ct35), sl35⟩) (c35 : PySem.W.codeIn K cd35 "_law_right" = true) (k35 : PySem.W.keepIn K (.ref f35) = true)
    (a36 : PySem.W.nsIn K mainGlobals "law" = some (some (.ref f36))) (l36 : K.lookup f36 = some ⟨oc36, od36, .func (PySem.W.fnOf "law" "law" (defArgs (topS 36)) (defBody (topS 36)) (defScope (topS 36)) .none kV36 dc36 pm36 an36 cd36 ct36), sl36⟩) (c36 : PySem.W.codeIn K cd36 "law" = true) (k36 : PySem.W.keepIn K (.ref f36) = true)
    (z_all : PySem.W.nsIn K mainGlobals "all" = some none)
    (z_bool : PySem.W.nsIn K mainGlobals "bool" = some none)
    (z_enumerate : PySem.W.nsIn K mainGlobals "enumerate" = some none)
    (z_int : PySem.W.nsIn K mainGlobals "int" = some none)
    (z_isinstance : PySem.W.nsIn K mainGlobals "isinstance" = some none)
    (z_len : PySem.W.nsIn K mainGlobals "len" = some none)
    (z_list : PySem.W.nsIn K mainGlobals "list" = some none)
    (z_max : PySem.W.nsIn K mainGlobals "max" = some none)
    (z_min : PySem.W.nsIn K mainGlobals "min" = some none)
    (z_range : PySem.W.nsIn K mainGlobals "range" = some none)
    (z_sorted : PySem.W.nsIn K mainGlobals "sorted" = some none)
    (z_sum : PySem.W.nsIn K mainGlobals "sum" = some none)
    (z_tuple : PySem.W.nsIn K mainGlobals "tuple" = some none)
    (z_zip : PySem.W.nsIn K mainGlobals "zip" = some none)
    (y_MOST_ITEMS : PySem.W.nsIn K mainGlobals "MOST_ITEMS" = some (some (.int 1000000000000000000000000000000 t_MOST_ITEMS)))
    : ∃ fd : FuncData, (∀ (s : Shared) (u : Value), BindsTo s fd ⟨[u], []⟩ [("_law_script", u)]) ∧ ∀ base : Heap, K.In base → base.Ns mainGlobals mg → FnG l.prog w K mg base CX0 8 fa fd ["_law_script"] (SpOf (fmLaw K) mlaw_p mlaw) := by
  have e := hfa.symm.trans (PySem.W.mg_of X G a36)
  cases e
  have F32 := fun_mk (st := topS 32) l32 c32 k32
  have F30 := fun_mk (st := topS 30) l30 c30 k30
  have F31 := fun_mk (st := topS 31) l31 c31 k31
  have F34 := fun_mk (st := topS 34) l34 c34 k34
  have F33 := fun_mk (st := topS 33) l33 c33 k33
  have F6 := fun_mk (st := topS 6) l6 c6 k6
  have F7 := fun_mk (st := topS 7) l7 c7 k7
  have F8 := fun_mk (st := topS 8) l8 c8 k8
  have F9 := fun_mk (st := topS 9) l9 c9 k9
  have F10 := fun_mk (st := topS 10) l10 c10 k10
  have F11 := fun_mk (st := topS 11) l11 c11 k11
  have F13 := fun_mk (st := topS 13) l13 c13 k13
  have F18 := fun_mk (st := topS 18) l18 c18 k18
  have F19 := fun_mk (st := topS 19) l19 c19 k19
  have F20 := fun_mk (st := topS 20) l20 c20 k20
  have F14 := fun_mk (st := topS 14) l14 c14 k14
  have F15 := fun_mk (st := topS 15) l15 c15 k15
  have F22 := fun_mk (st := topS 22) l22 c22 k22
  have F23 := fun_mk (st := topS 23) l23 c23 k23
  have F24 := fun_mk (st := topS 24) l24 c24 k24
  have F25 := fun_mk (st := topS 25) l25 c25 k25
  have F26 := fun_mk (st := topS 26) l26 c26 k26
  have F27 := fun_mk (st := topS 27) l27 c27 k27
  have F28 := fun_mk (st := topS 28) l28 c28 k28
  have F12 := fun_mk (st := topS 12) l12 c12 k12
  have F16 := fun_mk (st := topS 16) l16 c16 k16
  have F35 := fun_mk (st := topS 35) l35 c35 k35
  have F36 := fun_mk (st := topS 36) l36 c36 k36
  exact ⟨_, fun s u => .of_eq rfl, fun base _ _ => mlaw_ok (⟨f32, _, F32, (PySem.W.mg_of X G a32), (F32.binds (ps := ["_law_script"]) fun _ _ _ _ _ _ us hl => match us, hl with | [_], _ => rfl), f30, _, F30, (PySem.W.mg_of X G a30), (F30.binds (ps := ["_law_cell", "_law_turn"]) fun _ _ _ _ _ _ us hl => match us, hl with | [_, _], _ => rfl), f31, _, F31, (PySem.W.mg_of X G a31), (F31.binds (ps := ["_law_bag_here", "_law_many"]) fun _ _ _ _ _ _ us hl => match us, hl with | [_, _], _ => rfl), f34, _, F34, (PySem.W.mg_of X G a34), (F34.binds (ps := ["_law_script", "_law_bag_here"]) fun _ _ _ _ _ _ us hl => match us, hl with | [_, _], _ => rfl), f33, _, F33, (PySem.W.mg_of X G a33), (F33.binds (ps := ["_law_bag_here", "_law_size_here", "_law_most"]) fun _ _ _ _ _ _ us hl => match us, hl with | [_, _, _], _ => rfl), f6, _, F6, (PySem.W.mg_of X G a6), (F6.binds (ps := ["value", "least", "most"]) fun _ _ _ _ _ _ us hl => match us, hl with | [_, _, _], _ => rfl), f7, _, F7, (PySem.W.mg_of X G a7), (F7.binds (ps := ["items"]) fun _ _ _ _ _ _ us hl => match us, hl with | [_], _ => rfl), f8, _, F8, (PySem.W.mg_of X G a8), (F8.binds (ps := ["items", "value"]) fun _ _ _ _ _ _ us hl => match us, hl with | [_, _], _ => rfl), f9, _, F9, (PySem.W.mg_of X G a9), (F9.binds (ps := ["items", "value"]) fun _ _ _ _ _ _ us hl => match us, hl with | [_, _], _ => rfl), f10, _, F10, (PySem.W.mg_of X G a10), (F10.binds (ps := ["items", "selection"]) fun _ _ _ _ _ _ us hl => match us, hl with | [_, _], _ => rfl), f11, _, F11, (PySem.W.mg_of X G a11), (F11.binds (ps := ["selection"]) fun _ _ _ _ _ _ us hl => match us, hl with | [_], _ => rfl), f13, _, F13, (PySem.W.mg_of X G a13), (F13.binds (ps := ["borders"]) fun _ _ _ _ _ _ us hl => match us, hl with | [_], _ => rfl), f18, _, F18, (PySem.W.mg_of X G a18), (F18.binds (ps := ["borders"]) fun _ _ _ _ _ _ us hl => match us, hl with | [_], _ => rfl), f19, _, F19, (PySem.W.mg_of X G a19), (F19.binds (ps := ["selection"]) fun _ _ _ _ _ _ us hl => match us, hl with | [_], _ => rfl), f20, _, F20, (PySem.W.mg_of X G a20), (F20.binds (ps := ["items", "selection"]) fun _ _ _ _ _ _ us hl => match us, hl with | [_, _], _ => rfl), f14, _, F14, (PySem.W.mg_of X G a14), (F14.binds (ps := ["items", "selection"]) fun _ _ _ _ _ _ us hl => match us, hl with | [_, _], _ => rfl), f15, _, F15, (PySem.W.mg_of X G a15), (F15.binds (ps := ["items", "selection"]) fun _ _ _ _ _ _ us hl => match us, hl with | [_, _], _ => rfl), f22, _, F22, (PySem.W.mg_of X G a22), (F22.binds (ps := ["items", "selection"]) fun _ _ _ _ _ _ us hl => match us, hl with | [_, _], _ => rfl), f23, _, F23, (PySem.W.mg_of X G a23), (F23.binds (ps := ["selection"]) fun _ _ _ _ _ _ us hl => match us, hl with | [_], _ => rfl), f24, _, F24, (PySem.W.mg_of X G a24), (F24.binds (ps := ["block", "place"]) fun _ _ _ _ _ _ us hl => match us, hl with | [_, _], _ => rfl), f25, _, F25, (PySem.W.mg_of X G a25), (F25.binds (ps := ["blocks", "places"]) fun _ _ _ _ _ _ us hl => match us, hl with | [_, _], _ => rfl), f26, _, F26, (PySem.W.mg_of X G a26), (F26.binds (ps := ["selection"]) fun _ _ _ _ _ _ us hl => match us, hl with | [_], _ => rfl), f27, _, F27, (PySem.W.mg_of X G a27), (F27.binds (ps := ["cover"]) fun _ _ _ _ _ _ us hl => match us, hl with | [_], _ => rfl), f28, _, F28, (PySem.W.mg_of X G a28), (F28.binds (ps := ["items", "selection"]) fun _ _ _ _ _ _ us hl => match us, hl with | [_, _], _ => rfl), f12, _, F12, (PySem.W.mg_of X G a12), (F12.binds (ps := ["borders"]) fun _ _ _ _ _ _ us hl => match us, hl with | [_], _ => rfl), f16, _, F16, (PySem.W.mg_of X G a16), (F16.binds (ps := ["items", "selection", "other"]) fun _ _ _ _ _ _ us hl => match us, hl with | [_, _, _], _ => rfl), f35, _, F35, (PySem.W.mg_of X G a35), (F35.binds (ps := ["_law_script", "_law_bag_here"]) fun _ _ _ _ _ _ us hl => match us, hl with | [_, _], _ => rfl), fa, _, F36, (PySem.W.mg_of X G a36), (F36.binds (ps := ["_law_script"]) fun _ _ _ _ _ _ us hl => match us, hl with | [_], _ => rfl), (PySem.W.mg_none_of X G z_all), (PySem.W.mg_none_of X G z_bool), (PySem.W.mg_none_of X G z_enumerate), (PySem.W.mg_none_of X G z_int), (PySem.W.mg_none_of X G z_isinstance), (PySem.W.mg_none_of X G z_len), (PySem.W.mg_none_of X G z_list), (PySem.W.mg_none_of X G z_max), (PySem.W.mg_none_of X G z_min), (PySem.W.mg_none_of X G z_range), (PySem.W.mg_none_of X G z_sorted), (PySem.W.mg_none_of X G z_sum), (PySem.W.mg_none_of X G z_tuple), (PySem.W.mg_none_of X G z_zip), t_MOST_ITEMS, (PySem.W.mg_of X G y_MOST_ITEMS)⟩ : Tx K mg)⟩
end
end Lw
open PySem PySem.W PyProof.Rows
set_option maxHeartbeats 0 in
theorem PySem.Challenge.cw_rangeclicks_k41_whole_costs_of_related_s_holds : PySem.Challenge.rw_rangeclicks_k41_whole_costs_of_related_s.Holds := by
  w_on; o_law; k_head; (case hw => w_witness2)
  k_fill
  refine Dx.law_walk (l := PySem.Challenge.rw_rangeclicks_k41_whole_costs_of_related_s) (n := 63) (k := 8) (x := "_law_script") (sp := fun w => Dx.SpOf (Dx.fmLaw _) Lw.mlaw_p Lw.mlaw) rfl (by decide) rfl ⟨⟨rfl, by decide, by decide⟩, rfl⟩ (fun w h Y => PySem.W.kIn_of Y) ?F (fun _ _ _ ns hl hb hS => Dx.law_sp hS (Nat.le_trans hl (by decide)) (Lw.law_pre ns hl hb) (Lw.law_true ns hl hb))
  case F =>
    intro w mg fa h KX G hmg
    refine' Lw.all_mk KX G hmg ?a32 ?l32 ?c32 ?k32 ?a30 ?l30 ?c30 ?k30 ?a31 ?l31 ?c31 ?k31 ?a34 ?l34 ?c34 ?k34 ?a33 ?l33 ?c33 ?k33 ?a6 ?l6 ?c6 ?k6 ?a7 ?l7 ?c7 ?k7 ?a8 ?l8 ?c8 ?k8 ?a9 ?l9 ?c9 ?k9 ?a10 ?l10 ?c10 ?k10 ?a11 ?l11 ?c11 ?k11 ?a13 ?l13 ?c13 ?k13 ?a18 ?l18 ?c18 ?k18 ?a19 ?l19 ?c19 ?k19 ?a20 ?l20 ?c20 ?k20 ?a14 ?l14 ?c14 ?k14 ?a15 ?l15 ?c15 ?k15 ?a22 ?l22 ?c22 ?k22 ?a23 ?l23 ?c23 ?k23 ?a24 ?l24 ?c24 ?k24 ?a25 ?l25 ?c25 ?k25 ?a26 ?l26 ?c26 ?k26 ?a27 ?l27 ?c27 ?k27 ?a28 ?l28 ?c28 ?k28 ?a12 ?l12 ?c12 ?k12 ?a16 ?l16 ?c16 ?k16 ?a35 ?l35 ?c35 ?k35 ?a36 ?l36 ?c36 ?k36 ?z_all ?z_bool ?z_enumerate ?z_int ?z_isinstance ?z_len ?z_list ?z_max ?z_min ?z_range ?z_sorted ?z_sum ?z_tuple ?z_zip ?y_MOST_ITEMS
    (case a32 => k_is); (case l32 => k_is); (case c32 => k_is); (case k32 => k_is); (case a30 => k_is); (case l30 => k_is); (case c30 => k_is); (case k30 => k_is); (case a31 => k_is); (case l31 => k_is); (case c31 => k_is); (case k31 => k_is); (case a34 => k_is); (case l34 => k_is); (case c34 => k_is); (case k34 => k_is); (case a33 => k_is); (case l33 => k_is); (case c33 => k_is); (case k33 => k_is); (case a6 => k_is); (case l6 => k_is); (case c6 => k_is); (case k6 => k_is); (case a7 => k_is); (case l7 => k_is); (case c7 => k_is); (case k7 => k_is); (case a8 => k_is); (case l8 => k_is); (case c8 => k_is); (case k8 => k_is); (case a9 => k_is); (case l9 => k_is); (case c9 => k_is); (case k9 => k_is); (case a10 => k_is); (case l10 => k_is); (case c10 => k_is); (case k10 => k_is); (case a11 => k_is); (case l11 => k_is); (case c11 => k_is); (case k11 => k_is); (case a13 => k_is); (case l13 => k_is); (case c13 => k_is); (case k13 => k_is); (case a18 => k_is); (case l18 => k_is); (case c18 => k_is); (case k18 => k_is); (case a19 => k_is); (case l19 => k_is); (case c19 => k_is); (case k19 => k_is); (case a20 => k_is); (case l20 => k_is); (case c20 => k_is); (case k20 => k_is); (case a14 => k_is); (case l14 => k_is); (case c14 => k_is); (case k14 => k_is); (case a15 => k_is); (case l15 => k_is); (case c15 => k_is); (case k15 => k_is); (case a22 => k_is); (case l22 => k_is); (case c22 => k_is); (case k22 => k_is); (case a23 => k_is); (case l23 => k_is); (case c23 => k_is); (case k23 => k_is); (case a24 => k_is); (case l24 => k_is); (case c24 => k_is); (case k24 => k_is); (case a25 => k_is); (case l25 => k_is); (case c25 => k_is); (case k25 => k_is); (case a26 => k_is); (case l26 => k_is); (case c26 => k_is); (case k26 => k_is); (case a27 => k_is); (case l27 => k_is); (case c27 => k_is); (case k27 => k_is); (case a28 => k_is); (case l28 => k_is); (case c28 => k_is); (case k28 => k_is); (case a12 => k_is); (case l12 => k_is); (case c12 => k_is); (case k12 => k_is); (case a16 => k_is); (case l16 => k_is); (case c16 => k_is); (case k16 => k_is); (case a35 => k_is); (case l35 => k_is); (case c35 => k_is); (case k35 => k_is); (case a36 => k_is); (case l36 => k_is); (case c36 => k_is); (case k36 => k_is); (case z_all => k_is); (case z_bool => k_is); (case z_enumerate => k_is); (case z_int => k_is); (case z_isinstance => k_is); (case z_len => k_is); (case z_list => k_is); (case z_max => k_is); (case z_min => k_is); (case z_range => k_is); (case z_sorted => k_is); (case z_sum => k_is); (case z_tuple => k_is); (case z_zip => k_is); (case y_MOST_ITEMS => k_is)

