import PyProof.Rows.All
import Wide.All
import OpenK.AllK
import Wide.FinOn
import HandS.ForMost
import HandS.ForExc
import HandS.IsInst
import HandS.CallSlots
import HandS.Wide
import HandS.Deep
import HandS.ExcInit
import HandS.Flow
import HandS.Sort
import HandS.TupAny
import HandS.RaiseMore
import HandS.Comp
import HandS.Ends
import HandS.StrMore
import PyProof.ReprRoads
import PyProof.StrOps2
import PyProof.Rows.SeqMore
import HandS.Text
import HandS.Dict
import KE.KExcIs
import HandS.ExcIs
import HandS.Words
import HandS.Iter
import HandS.WordsExc
import PyProof.ReprBulk
import HandS.List
import HandS.Defaults
import HandS.Replace
import PyProof.P3Eq
import PySem.Challenge.RW_leastreplan_k03_numbers_and_words_in_tex
set_option Elab.async false
set_option linter.all false
set_option maxRecDepth 100000
set_option maxHeartbeats 2000000
/-! M0: a shallow mirror of a def: what it computes on data (D) with a store of cells, as a plain Lean function; the core of its soundness over HandS. -/
namespace Mir
open PySem PySem.Spec PyProof.Rows L2

/-! ### data, cells, states -/
inductive D where
  | non | bl (b : Bool) | int (i : Int) | str (x : Str)
  | lst (xs : List D) | tup (xs : List D)
  | ref (n : Nat)
  | dct (ks : List Key) (vs : List D)
  | exc (C : Str) (ks : List Str) (vs : List D)
  | rng (lo hi : Int)
  | ty (n : String)
  | cls (C : Str)
instance : Inhabited D := ⟨.non⟩
inductive Cell where
  | lst (xs : List D)
  | dct (kvs : List (Key × D))
  | ins (C : Str) (fs : List (Str × D))
  | dead
inductive SV where
  | val (d : D)
  | own (x : Cell)
structure S where
  sl : List (Option SV)
  st : List Cell
structure Ex where
  cls : Str
  fs : List (Str × D)
inductive R (α : Type) where
  | ok (a : α) (s : S)
  | exc (x : Ex) (s : S)
  | bad
abbrev M (α : Type) := S → R α
def R.bind {α β : Type} : R α → (α → M β) → R β
  | .ok a s, f => f a s
  | .exc x s, _ => .exc x s
  | .bad, _ => .bad
def bindM {α β : Type} (m : M α) (f : α → M β) : M β := fun s => (m s).bind f
def pureM {α : Type} (a : α) : M α := fun s => .ok a s
def badM {α : Type} : M α := fun _ => .bad
def guardM {α : Type} (c : Bool) (m : M α) : M α := fun s => match c with
  | true => m s
  | false => .bad

/-! ### what stands for what -/
section
variable (K : PySem.W.Frag) (mg : Str → Option Value) (ι : List Addr) (F : Hp)
mutual
def RepV : D → V → Prop
  | .non, v => v = .non
  | .bl b, v => v = .bl b
  | .int i, v => v = .int i
  | .str x, v => v = .str x
  | .lst ds, v => ∃ a vs, v = .ref a ∧ SqL K F a vs ∧ RepL ds vs
  | .tup ds, v => ∃ a vs, v = .ref a ∧ SqT K F a vs ∧ RepL ds vs
  | .ref n, v => ∃ a, v = .ref a ∧ ι[n]? = some a
  | .dct ks ds, v => ∃ a vs, v = .ref a ∧ F a = some (.dK (ks.zip vs)) ∧ ks.length = ds.length ∧ RepL ds vs
  | .exc C ks ds, v => ∃ a ca d vs, v = .ref a ∧ mg C = some (.ref ca) ∧ F a = some (exo a ca d) ∧ (∀ x, d = some x → F x = some (exd x (ks.zip vs))) ∧ RepL ds vs
  | .rng lo hi, v => ∃ a, v = .ref a ∧ F a = some (.rng lo hi)
  | .ty n, v => v = .ty n
  | .cls C, v => ∃ a, v = .ref a ∧ mg C = some (.ref a)
def RepL : List D → List V → Prop
  | [], vs => vs = []
  | d :: ds, vs => ∃ v r, vs = v :: r ∧ RepV d v ∧ RepL ds r
end
def RepP {κ : Type} : List (κ × D) → List (κ × V) → Prop
  | [], vs => vs = []
  | d :: ds, vs => ∃ v r, vs = (d.1, v) :: r ∧ RepV K mg ι F d.2 v ∧ RepP ds r
end
theorem sqL_mono {K : PySem.W.Frag} {F F' : Hp} {a : Addr} {vs : List V} (h : ∀ a o, F a = some o → F' a = some o) (q : SqL K F a vs) : SqL K F' a vs := by
  rcases q with (q | ⟨o, q⟩) | q
  · exact .inl (.inl (h _ _ q))
  · exact .inl (.inr ⟨o, h _ _ q⟩)
  · exact .inr q
theorem sqT_mono {K : PySem.W.Frag} {F F' : Hp} {a : Addr} {vs : List V} (h : ∀ a o, F a = some o → F' a = some o) (q : SqT K F a vs) : SqT K F' a vs := by
  rcases q with (q | ⟨o, q⟩) | q
  · exact .inl (.inl (h _ _ q))
  · exact .inl (.inr ⟨o, h _ _ q⟩)
  · exact .inr q
section
variable {K : PySem.W.Frag} {mg : Str → Option Value} {ι r : List Addr} {F F' : Hp}
theorem ix_pre {n : Nat} {a : Addr} (h : ι[n]? = some a) : (ι ++ r)[n]? = some a := by
  obtain ⟨h1, h2⟩ := List.getElem?_eq_some_iff.mp h
  rw [List.getElem?_append_left h1, h]
mutual
theorem RepV.mono (hF : ∀ a o, F a = some o → F' a = some o) : ∀ (d : D) (v : V), RepV K mg ι F d v → RepV K mg (ι ++ r) F' d v
  | .non, _, h => h
  | .bl _, _, h => h
  | .int _, _, h => h
  | .str _, _, h => h
  | .lst ds, _, h => by
    obtain ⟨a, vs, e, q, l⟩ := h
    exact ⟨a, vs, e, sqL_mono hF q, RepL.mono hF ds vs l⟩
  | .tup ds, _, h => by
    obtain ⟨a, vs, e, q, l⟩ := h
    exact ⟨a, vs, e, sqT_mono hF q, RepL.mono hF ds vs l⟩
  | .ref _, _, h => by
    obtain ⟨a, e, q⟩ := h
    exact ⟨a, e, ix_pre q⟩
  | .dct ks ds, _, h => by
    obtain ⟨a, vs, e, q, hl, l⟩ := h
    exact ⟨a, vs, e, hF _ _ q, hl, RepL.mono hF ds vs l⟩
  | .exc C ks ds, _, h => by
    obtain ⟨a, ca, d, vs, e, g, q, x, l⟩ := h
    exact ⟨a, ca, d, vs, e, g, hF _ _ q, fun y z => hF _ _ (x y z), RepL.mono hF ds vs l⟩
  | .rng lo hi, _, h => by
    obtain ⟨a, e, q⟩ := h
    exact ⟨a, e, hF _ _ q⟩
  | .ty _, _, h => h
  | .cls _, _, h => h
theorem RepL.mono (hF : ∀ a o, F a = some o → F' a = some o) : ∀ (ds : List D) (vs : List V), RepL K mg ι F ds vs → RepL K mg (ι ++ r) F' ds vs
  | [], _, h => h
  | d :: ds, _, h => by
    obtain ⟨v, w, e, q, l⟩ := h
    exact ⟨v, w, e, RepV.mono hF d v q, RepL.mono hF ds w l⟩
end
theorem RepP.mono {κ : Type} (hF : ∀ a o, F a = some o → F' a = some o) : ∀ (ds : List (κ × D)) (vs : List (κ × V)), RepP K mg ι F ds vs → RepP K mg (ι ++ r) F' ds vs
  | [], _, h => h
  | d :: ds, _, h => by
    obtain ⟨v, w, e, q, l⟩ := h
    exact ⟨v, w, e, RepV.mono hF d.2 v q, RepP.mono hF ds w l⟩
theorem RepL.length : ∀ {ds : List D} {vs : List V}, RepL K mg ι F ds vs → ds.length = vs.length
  | [], _, h => by
    have e : _ = [] := h
    rw [e]
    rfl
  | d :: ds, _, h => by
    obtain ⟨v, w, rfl, _, l⟩ := h
    have e := RepL.length l
    simp only [List.length_cons]
    omega
theorem RepL.append : ∀ {ds es : List D} {vs ws : List V}, RepL K mg ι F ds vs → RepL K mg ι F es ws → RepL K mg ι F (ds ++ es) (vs ++ ws)
  | [], _, _, _, h, k => by
    have e : _ = [] := h
    rw [e]
    exact k
  | d :: ds, _, _, _, h, k => by
    obtain ⟨v, w, rfl, q, l⟩ := h
    exact ⟨v, _, rfl, q, RepL.append l k⟩
theorem RepL.one {d : D} {v : V} (h : RepV K mg ι F d v) : RepL K mg ι F [d] [v] := ⟨v, [], rfl, h, rfl⟩
theorem RepL.get : ∀ {ds : List D} {vs : List V} {i : Nat} {d : D}, RepL K mg ι F ds vs → ds[i]? = some d → ∃ v, vs[i]? = some v ∧ RepV K mg ι F d v
  | [], _, _, _, _, e => by simp at e
  | d :: ds, _, 0, _, h, e => by
    obtain ⟨v, w, rfl, q, l⟩ := h
    simp only [List.getElem?_cons_zero, Option.some.injEq] at e
    subst e
    exact ⟨v, rfl, q⟩
  | d :: ds, _, i + 1, _, h, e => by
    obtain ⟨v, w, rfl, q, l⟩ := h
    simp only [List.getElem?_cons_succ] at e
    obtain ⟨u, e1, e2⟩ := RepL.get l e
    exact ⟨u, by simpa using e1, e2⟩
theorem RepL.getV : ∀ {ds : List D} {vs : List V} {i : Nat} {v : V}, RepL K mg ι F ds vs → vs[i]? = some v → ∃ d, ds[i]? = some d ∧ RepV K mg ι F d v
  | [], _, _, _, h, e => by
    have z : _ = [] := h
    rw [z] at e
    simp at e
  | d :: ds, _, 0, _, h, e => by
    obtain ⟨v, w, rfl, q, l⟩ := h
    simp only [List.getElem?_cons_zero, Option.some.injEq] at e
    subst e
    exact ⟨d, rfl, q⟩
  | d :: ds, _, i + 1, _, h, e => by
    obtain ⟨v, w, rfl, q, l⟩ := h
    simp only [List.getElem?_cons_succ] at e
    obtain ⟨u, e1, e2⟩ := RepL.getV l e
    exact ⟨u, by simpa using e1, e2⟩
theorem RepL.set : ∀ {ds : List D} {vs : List V} {i : Nat} {d : D} {v : V}, RepL K mg ι F ds vs → RepV K mg ι F d v → RepL K mg ι F (ds.set i d) (vs.set i v)
  | [], _, _, _, _, h, _ => by
    have z : _ = [] := h
    rw [z]
    rfl
  | d :: ds, _, 0, _, _, h, k => by
    obtain ⟨v, w, rfl, q, l⟩ := h
    exact ⟨_, w, rfl, k, l⟩
  | d :: ds, _, i + 1, _, _, h, k => by
    obtain ⟨v, w, rfl, q, l⟩ := h
    exact ⟨v, _, rfl, q, RepL.set l k⟩
theorem RepL.drop : ∀ {ds : List D} {vs : List V} (n : Nat), RepL K mg ι F ds vs → RepL K mg ι F (ds.drop n) (vs.drop n)
  | ds, vs, 0, h => by simpa using h
  | [], _, n + 1, h => by
    have z : _ = [] := h
    rw [z]
    simp
    rfl
  | d :: ds, _, n + 1, h => by
    obtain ⟨v, w, rfl, q, l⟩ := h
    simpa using RepL.drop n l
theorem RepL.take : ∀ {ds : List D} {vs : List V} (n : Nat), RepL K mg ι F ds vs → RepL K mg ι F (ds.take n) (vs.take n)
  | ds, vs, 0, h => by
    simp
    rfl
  | [], _, n + 1, h => by
    have z : _ = [] := h
    rw [z]
    simp
    rfl
  | d :: ds, _, n + 1, h => by
    obtain ⟨v, w, rfl, q, l⟩ := h
    exact ⟨v, _, rfl, q, RepL.take n l⟩
end

/-! ### configurations -/
/-- the abstract heap beside the store: cells' addresses, what is frozen -/
structure HC where
  st : List Cell
  ι : List Addr
  F : Hp
  H : Hp
section
variable (K : PySem.W.Frag) (mg : Str → Option Value)
def CellAt (c : HC) (a : Addr) : Cell → Prop
  | .lst ds => c.F a = none ∧ ∃ vs, c.H a = some (.lst vs) ∧ RepL K mg c.ι c.F ds vs
  | .dct kvs => c.F a = none ∧ ∃ kws, c.H a = some (.dK kws) ∧ RepP K mg c.ι c.F kvs kws
  | .ins C fs => c.F a = none ∧ ∃ ca dx fws, mg C = some (.ref ca) ∧ c.H a = some (.ins ca dx fws) ∧ RepP K mg c.ι c.F fs fws
  | .dead => True
structure RepC (c : HC) : Prop where
  fr : ∀ a o, c.F a = some o → c.H a = some o
  nd : c.ι.Nodup
  len : c.ι.length = c.st.length
  cell : ∀ (n : Nat) a x, c.ι[n]? = some a → c.st[n]? = some x → CellAt K mg c a x
  tr : ∀ a, a ∈ c.ι → c.H a ≠ none
structure Cfg where
  h : HC
  sl : List (Option SV)
  σ : L2.St
def Cfg.s (c : Cfg) : S := ⟨c.sl, c.h.st⟩
structure Rep (c : Cfg) : Prop where
  rc : RepC K mg c.h
  sln : c.sl.length = c.σ.length
  val : ∀ (i : Nat) d, c.sl[i]? = some (some (.val d)) → ∃ v, c.σ[i]? = some (some v) ∧ RepV K mg c.h.ι c.h.F d v
  own : ∀ (i : Nat) x, c.sl[i]? = some (some (.own x)) → ∃ a, c.σ[i]? = some (some (.ref a)) ∧ a ∉ c.h.ι ∧ c.h.F a = none ∧ c.h.H a ≠ none ∧ CellAt K mg c.h a x
  dis : ∀ (i j : Nat) x y a, c.sl[i]? = some (some (.own x)) → c.sl[j]? = some (some (.own y)) → c.σ[i]? = some (some (.ref a)) → c.σ[j]? = some (some (.ref a)) → i = j
end
/-- what may be changed -/
def Mu (c : Cfg) (a : Addr) : Prop := a ∈ c.h.ι ∨ ∃ (i : Nat) (x : Cell), c.sl[i]? = some (some (.own x)) ∧ c.σ[i]? = some (some (.ref a))
structure Ext0 (m m' : Addr → Prop) (c c' : HC) : Prop where
  pre : ∃ r, c'.ι = c.ι ++ r
  fz : ∀ a o, c.F a = some o → c'.F a = some o
  fr : ∀ a o, c.H a = some o → ¬ m a → c'.H a = some o
  dom : ∀ a, c'.H a = none → c.H a = none
  nf : ∀ a o, c'.F a = some o → c.F a = some o ∨ c.H a = none ∨ m a
  ow : ∀ a, m' a → m a ∨ c.H a = none
abbrev Ext (c c' : Cfg) : Prop := Ext0 (Mu c) (Mu c') c.h c'.h
section
variable {m m' m'' : Addr → Prop} {c c' c'' : HC}
theorem Ext0.refl : Ext0 m m c c := ⟨⟨[], by simp⟩, fun _ _ h => h, fun _ _ h _ => h, fun _ h => h, fun _ _ h => .inl h, fun _ h => .inl h⟩
theorem Ext0.trans (x : Ext0 m m' c c') (y : Ext0 m' m'' c' c'') : Ext0 m m'' c c'' where
  pre := by
    obtain ⟨r, e⟩ := x.pre
    obtain ⟨q, f⟩ := y.pre
    exact ⟨r ++ q, by rw [f, e, List.append_assoc]⟩
  fz := fun a o h => y.fz a o (x.fz a o h)
  fr := fun a o h n => y.fr a o (x.fr a o h n) fun k => by
    rcases x.ow a k with q | q
    · exact n q
    · rw [q] at h
      cases h
  dom := fun a h => x.dom a (y.dom a h)
  nf := fun a o h => by
    rcases y.nf a o h with q | q | q
    · exact x.nf a o q
    · exact .inr (.inl (x.dom a q))
    · rcases x.ow a q with z | z
      · exact .inr (.inr z)
      · exact .inr (.inl z)
  ow := fun a h => by
    rcases y.ow a h with q | q
    · exact x.ow a q
    · exact .inr (x.dom a q)
end
section
variable {K : PySem.W.Frag} {mg : Str → Option Value} {m m' : Addr → Prop} {c c' : HC}
theorem Ext0.repV (x : Ext0 m m' c c') {d : D} {v : V} (h : RepV K mg c.ι c.F d v) : RepV K mg c'.ι c'.F d v := by
  obtain ⟨r, e⟩ := x.pre
  rw [e]
  exact RepV.mono x.fz d v h
theorem Ext0.repL (x : Ext0 m m' c c') {d : List D} {v : List V} (h : RepL K mg c.ι c.F d v) : RepL K mg c'.ι c'.F d v := by
  obtain ⟨r, e⟩ := x.pre
  rw [e]
  exact RepL.mono x.fz d v h
theorem Ext0.repP (x : Ext0 m m' c c') {κ : Type} {d : List (κ × D)} {v : List (κ × V)} (h : RepP K mg c.ι c.F d v) : RepP K mg c'.ι c'.F d v := by
  obtain ⟨r, e⟩ := x.pre
  rw [e]
  exact RepP.mono x.fz d v h
end

/-! ### readings out of mirrors -/
/-- an exception's representation: its class, its own dict -/
def RepX (K : PySem.W.Frag) (mg : Str → Option Value) (c : HC) (x : Ex) (cv : Value) (da : Option Addr) : Prop :=
  ∃ ca, mg x.cls = some (.ref ca) ∧ cv = .ref ca ∧ ∃ d fws, da = some d ∧ c.H d = some (.xd fws) ∧ RepP K mg c.ι c.F x.fs fws
section
variable (K : PySem.W.Frag) (mg : Str → Option Value) (W : WX)
def Post {α : Type} (c : Cfg) (P : α → Cfg → Prop) : R α → Prop
  | .ok a s => ∀ c' : Cfg, c'.s = s → c'.σ = c.σ → Rep K mg c' → Ext c c' → P a c'
  | .exc x s => ∀ (c' : Cfg) (cv : Value) (da : Option Addr), c'.s = s → c'.σ = c.σ → Rep K mg c' → Ext c c' → RepX K mg c'.h x cv da → W cv da c'.σ c'.h.H
  | .bad => False
def T (m : M D) : TE := fun σ H Q => ∃ c : Cfg, c.σ = σ ∧ c.h.H = H ∧ Rep K mg c ∧ Post K mg W c (fun d c' => ∀ v, RepV K mg c'.h.ι c'.h.F d v → Q v c'.h.H) (m c.s)
def TB (m : M Bool) : TT := fun σ H Q => ∃ c : Cfg, c.σ = σ ∧ c.h.H = H ∧ Rep K mg c ∧ Post K mg W c (fun b c' => Q b c'.h.H) (m c.s)
def TL (m : M (List D)) : TA := fun σ H Q => ∃ c : Cfg, c.σ = σ ∧ c.h.H = H ∧ Rep K mg c ∧ Post K mg W c (fun d c' => ∀ v, RepL K mg c'.h.ι c'.h.F d v → Q v c'.h.H) (m c.s)
end
section
variable {K : PySem.W.Frag} {mg : Str → Option Value} {W : WX} {α β : Type} {c c1 : Cfg} {P P' : α → Cfg → Prop}
theorem Post.mono {r : R α} (h : Post K mg W c P r) (k : ∀ a c', c'.σ = c.σ → Rep K mg c' → Ext c c' → P a c' → P' a c') : Post K mg W c P' r := by
  cases r with
  | ok a s => exact fun c' e1 e2 r x => k a c' e2 r x (h c' e1 e2 r x)
  | exc x s => exact h
  | bad => exact h
theorem Post.shift {r : R α} (h : Post K mg W c P r) (e : c1.σ = c.σ) (x : Ext c c1) : Post K mg W c1 P r := by
  cases r with
  | ok a s => exact fun c' e1 e2 r y => h c' e1 (e2.trans e) r (x.trans y)
  | exc z s => exact fun c' cv da e1 e2 r y q => h c' cv da e1 (e2.trans e) r (x.trans y) q
  | bad => exact h
theorem Post.bind {m : R α} {f : α → M β} {P : β → Cfg → Prop} (h : Post K mg W c P (m.bind f)) : Post K mg W c (fun a c1 => Post K mg W c1 P (f a c1.s)) m := by
  cases m with
  | ok a s =>
    intro c' e1 e2 r x
    have h' : Post K mg W c P (f a s) := h
    rw [e1]
    exact h'.shift e2 x
  | exc z s => exact h
  | bad => exact h
/-- the present configuration is one of those -/
theorem Post.now {a : α} (h : Post K mg W c P (.ok a c.s)) (r : Rep K mg c) : P a c := h c rfl rfl r Ext0.refl
end
theorem PE.imp {X : Cx} {e : Expr} {t t' : TE} (h : PE X e t) (k : ∀ σ H Q, t' σ H Q → t σ H Q) : PE X e t' := ⟨fun pins s σ H Q I q => h.run pins s σ H Q I (k σ H Q q)⟩
theorem PT.imp {X : Cx} {e : Expr} {t t' : TT} (h : PT X e t) (k : ∀ σ H Q, t' σ H Q → t σ H Q) : PT X e t' := ⟨fun pins s σ H Q I q => h.run pins s σ H Q I (k σ H Q q)⟩
theorem PW.imp {X : Cx} {e : Expr} {t t' : TT} (h : PW X e t) (k : ∀ σ H Q, t' σ H Q → t σ H Q) : PW X e t' := ⟨fun wh pins s σ H Q I q => h.run wh pins s σ H Q I (k σ H Q q)⟩
theorem PA.imp {X : Cx} {e : List Expr} {t t' : TA} (h : PA X e t) (k : ∀ σ H Q, t' σ H Q → t σ H Q) : PA X e t' := ⟨fun pos pins s σ H Q I q => h.run pos pins s σ H Q I (k σ H Q q)⟩
theorem PS.imp {X : Cx} {e : Stmt} {t t' : TS} (h : PS X e t) (k : ∀ D σ H, t' D σ H → t D σ H) : PS X e t' := ⟨fun pins s σ H D I q => h.run pins s σ H D I (k D σ H q)⟩
theorem PSs.imp {X : Cx} {e : List Stmt} {t t' : TS} (h : PSs X e t) (k : ∀ D σ H, t' D σ H → t D σ H) : PSs X e t' := ⟨fun pins s σ H D I q => h.run pins s σ H D I (k D σ H q)⟩

/-! ### the heap grows -/
section
variable {K : PySem.W.Frag} {mg : Str → Option Value} {c : Cfg} {p : Addr} {o : HO}
def HC.frz (c : HC) (p : Addr) (o : HO) : HC := { c with F := upd c.F p o, H := upd c.H p o }
def Cfg.frz (c : Cfg) (p : Addr) (o : HO) : Cfg := { c with h := c.h.frz p o }
theorem upd_there {H : Hp} {a p : Addr} {o : HO} (h : H a ≠ none) : (upd H p o) a ≠ none := by
  by_cases e : a = p
  · rw [e, upd_same]
    exact fun z => nomatch z
  · rw [upd_ne e]
    exact h
theorem upd_fr {F : Hp} (h : F p = none) : ∀ a u, F a = some u → (upd F p o) a = some u := fun a u e => by
  rw [upd_ne (ne_of_none e h)]
  exact e
theorem RepC.fnone {c : HC} (r : RepC K mg c) (h : c.H p = none) : c.F p = none := by
  cases q : c.F p with
  | none => rfl
  | some u =>
    rw [r.fr p u q] at h
    cases h
theorem CellAt.mono {c c' : HC} {a : Addr} {x : Cell} {r : List Addr} (h : CellAt K mg c a x) (hι : c'.ι = c.ι ++ r) (hF : ∀ a o, c.F a = some o → c'.F a = some o) (h1 : c.F a = none → c'.F a = none) (h2 : ∀ o, c.H a = some o → c'.H a = some o) : CellAt K mg c' a x := by
  cases x with
  | lst ds =>
    obtain ⟨n, vs, e, l⟩ := h
    exact ⟨h1 n, vs, h2 _ e, by rw [hι]; exact RepL.mono hF ds vs l⟩
  | dct kvs =>
    obtain ⟨n, vs, e, l⟩ := h
    exact ⟨h1 n, vs, h2 _ e, by rw [hι]; exact RepP.mono hF kvs vs l⟩
  | ins C fs =>
    obtain ⟨n, ca, dx, vs, g, e, l⟩ := h
    exact ⟨h1 n, ca, dx, vs, g, h2 _ e, by rw [hι]; exact RepP.mono hF fs vs l⟩
  | dead => exact True.intro
theorem CellAt.there {c : HC} {a : Addr} {x : Cell} (h : CellAt K mg c a x) (hx : x ≠ .dead) : c.H a ≠ none := by
  cases x with
  | lst ds =>
    obtain ⟨n, vs, e, l⟩ := h
    rw [e]
    exact fun z => nomatch z
  | dct kvs =>
    obtain ⟨n, vs, e, l⟩ := h
    rw [e]
    exact fun z => nomatch z
  | ins C fs =>
    obtain ⟨n, ca, dx, vs, g, e, l⟩ := h
    rw [e]
    exact fun z => nomatch z
  | dead => exact absurd rfl hx
theorem RepC.frz {c : HC} (r : RepC K mg c) (h : c.H p = none) : RepC K mg (c.frz p o) := by
  have hF := r.fnone h
  refine ⟨fun a u e => ?_, r.nd, r.len, fun n a x e1 e2 => ?_, fun a h => upd_there (r.tr a h)⟩
  · by_cases ha : a = p
    · subst ha
      have e' : (upd c.F a o) a = some u := e
      rw [upd_same] at e'
      cases e'
      exact upd_same
    · have e' : (upd c.F p o) a = some u := e
      rw [upd_ne ha] at e'
      show (upd c.H p o) a = some u
      rw [upd_ne ha]
      exact r.fr a u e'
  · have q := r.cell n a x e1 e2
    by_cases hx : x = .dead
    · subst hx
      exact True.intro
    have ha : a ≠ p := fun z => by
      subst z
      exact q.there hx h
    exact q.mono (r := []) (by simp [HC.frz]) (upd_fr hF) (fun z => by show (upd c.F p o) a = none; rw [upd_ne ha]; exact z) fun u z => by
      show (upd c.H p o) a = some u
      rw [upd_ne ha]
      exact z
theorem Rep.frz (r : Rep K mg c) (h : c.h.H p = none) : Rep K mg (c.frz p o) := by
  have hF := r.rc.fnone h
  have hι : (c.frz p o).h.ι = c.h.ι ++ [] := by simp [Cfg.frz, HC.frz]
  refine ⟨r.rc.frz h, r.sln, fun i d e => ?_, fun i x e => ?_, r.dis⟩
  · obtain ⟨v, e1, e2⟩ := r.val i d e
    refine ⟨v, e1, ?_⟩
    rw [hι]
    exact RepV.mono (upd_fr hF) d v e2
  · obtain ⟨a, e1, e2, e3, e4, e5⟩ := r.own i x e
    have ha : a ≠ p := fun z => by
      subst z
      exact e4 h
    refine ⟨a, e1, e2, ?_, ?_, ?_⟩
    · show (upd c.h.F p o) a = none
      rw [upd_ne ha]
      exact e3
    · show (upd c.h.H p o) a ≠ none
      rw [upd_ne ha]
      exact e4
    · exact e5.mono hι (upd_fr hF) (fun z => by show (upd c.h.F p o) a = none; rw [upd_ne ha]; exact z) fun u z => by
        show (upd c.h.H p o) a = some u
        rw [upd_ne ha]
        exact z
theorem Ext.frz (r : Rep K mg c) (h : c.h.H p = none) : Ext c (c.frz p o) where
  pre := ⟨[], by simp [Cfg.frz, HC.frz]⟩
  fz := upd_fr (r.rc.fnone h)
  fr := fun a u e _ => upd_fr h a u e
  dom := fun a e => by
    by_cases ha : a = p
    · rw [ha]
      exact h
    · have e' : (upd c.h.H p o) a = none := e
      rw [upd_ne ha] at e'
      exact e'
  nf := fun a u e => by
    by_cases ha : a = p
    · rw [ha]
      exact .inr (.inl h)
    · have e' : (upd c.h.F p o) a = some u := e
      rw [upd_ne ha] at e'
      exact .inl e'
  ow := fun a h => .inl h
/-- a new frozen list, a new frozen tuple -/
theorem frz_lst {c : HC} {ds : List D} {vs : List V} (h : c.F p = none) (l : RepL K mg c.ι c.F ds vs) : RepV K mg (c.frz p (.lst vs)).ι (c.frz p (.lst vs)).F (.lst ds) (.ref p) := by
  refine ⟨p, vs, rfl, .inl (.inl upd_same), ?_⟩
  have q := RepL.mono (r := []) (upd_fr (o := .lst vs) h) ds vs l
  simpa [HC.frz] using q
theorem frz_tup {c : HC} {ds : List D} {vs : List V} (h : c.F p = none) (l : RepL K mg c.ι c.F ds vs) : RepV K mg (c.frz p (.tup vs)).ι (c.frz p (.tup vs)).F (.tup ds) (.ref p) := by
  refine ⟨p, vs, rfl, .inl (.inl upd_same), ?_⟩
  have q := RepL.mono (r := []) (upd_fr (o := .tup vs) h) ds vs l
  simpa [HC.frz] using q
end
end Mir
/-! M1: expressions: names, constants, operators, comparisons, tests, displays, subscripts. -/
namespace Mir
open PySem PySem.Spec PyProof.Rows L2

/-! ### mirrors -/
def varM (i : Nat) : M D := fun s => match s.sl[i]? with
  | some (some (.val d)) => .ok d s
  | _ => .bad
def opM (f : List Cell → D → D → Option D) (ma mb : M D) : M D := bindM ma fun x => bindM mb fun y => fun s => match f s.st x y with
  | some d => .ok d s
  | none => .bad
def unM (f : List Cell → D → Option D) (ma : M D) : M D := bindM ma fun x => fun s => match f s.st x with
  | some d => .ok d s
  | none => .bad
def fnM (f : List Cell → List D → Option D) (ma : M (List D)) : M D := bindM ma fun x => fun s => match f s.st x with
  | some d => .ok d s
  | none => .bad
def consM (ma : M D) (mr : M (List D)) : M (List D) := bindM ma fun x => bindM mr fun xs => pureM (x :: xs)

/-- the lists that may be read: frozen ones, cells -/
def lstOf (st : List Cell) : D → Option (List D)
  | .lst xs => some xs
  | .ref n => match st[n]? with
    | some (.lst xs) => some xs
    | _ => none
  | _ => none
def tupOf : D → Option (List D)
  | .tup xs => some xs
  | _ => none
def seqOf (st : List Cell) : D → Option (List D)
  | .tup xs => some xs
  | d => lstOf st d

section
variable {K : PySem.W.Frag} {mg : Str → Option Value} {W : WX} {X : Cx}
theorem lstOf_rep {c : HC} {d : D} {ds : List D} {v : V} (r : RepC K mg c) (h : lstOf c.st d = some ds) (hv : RepV K mg c.ι c.F d v) : ∃ a vs, v = .ref a ∧ SqL K c.H a vs ∧ RepL K mg c.ι c.F ds vs := by
  cases d with
  | lst xs =>
    cases h
    obtain ⟨a, vs, e, q, l⟩ := hv
    exact ⟨a, vs, e, sqL_mono r.fr q, l⟩
  | ref n =>
    obtain ⟨a, e, q⟩ := hv
    simp only [lstOf] at h
    cases hc : c.st[n]? with
    | none =>
      rw [hc] at h
      cases h
    | some x =>
      rw [hc] at h
      cases x with
      | lst xs =>
        cases h
        obtain ⟨_, vs, e2, l⟩ := r.cell n a _ q hc
        exact ⟨a, vs, e, .inl (.inl e2), l⟩
      | _ => cases h
  | _ => cases h
theorem tupOf_rep {c : HC} {d : D} {ds : List D} {v : V} (r : RepC K mg c) (h : tupOf d = some ds) (hv : RepV K mg c.ι c.F d v) : ∃ a vs, v = .ref a ∧ SqT K c.H a vs ∧ RepL K mg c.ι c.F ds vs := by
  cases d with
  | tup xs =>
    cases h
    obtain ⟨a, vs, e, q, l⟩ := hv
    exact ⟨a, vs, e, sqT_mono r.fr q, l⟩
  | _ => cases h

/-! ### names, constants -/
theorem me_var (i : Nat) {x : Str} {pos : Pos} (hN : X.N[i]? = some x := by rfl) (hv : Vis X.env.scope x := by first | exact Or.inl rfl | exact Or.inr (Or.inl rfl) | exact Or.inr (Or.inr rfl)) (hd : (x == ("__debug__" : Str)) = false := by decide)
    (hcd : (x == ("__classdict__" : Str)) = false := by decide) : PE X (.Name x pos) (T K mg W (varM i)) := by
  refine PE.imp (pe_var hN hv hd hcd) fun σ H Q h => ?_
  obtain ⟨c, rfl, rfl, r, p⟩ := h
  unfold varM at p
  have e : c.s.sl = c.sl := rfl
  rw [e] at p
  cases h1 : c.sl[i]? with
  | none =>
    rw [h1] at p
    exact p.elim
  | some o =>
    rw [h1] at p
    cases o with
    | none => exact p.elim
    | some x =>
      cases x with
      | own y => exact p.elim
      | val d =>
        obtain ⟨v, e1, e2⟩ := r.val i d h1
        exact ⟨v, e1, p.now r v e2⟩
theorem me_c {e : Expr} {v : V} {d : D} (h : PE X e (tC v)) (hd : ∀ ι F, RepV K mg ι F d v) : PE X e (T K mg W (pureM d)) := by
  refine PE.imp h fun σ H Q h => ?_
  obtain ⟨c, rfl, rfl, r, p⟩ := h
  exact Post.now (c := c) p r v (hd _ _)
theorem me_int {i j pos} : PE X (.Constant (.int i) j pos) (T K mg W (pureM (.int i))) := me_c pe_int fun _ _ => rfl
theorem me_bl {i j pos} : PE X (.Constant (.bool i) j pos) (T K mg W (pureM (.bl i))) := me_c pe_bl fun _ _ => rfl
theorem me_non {j pos} : PE X (.Constant .none j pos) (T K mg W (pureM .non)) := me_c pe_non fun _ _ => rfl
theorem me_str {x j pos} : PE X (.Constant (.str x) j pos) (T K mg W (pureM (.str x))) := me_c pe_str fun _ _ => rfl
/-- a module's constant -/
theorem me_glob {x : Str} {v : V} {u : Value} {d : D} {pos : Pos} (hg : Gl X x) (hm : X.mg x = some u) (r : RelV v u) (hd : ∀ ι F, RepV K mg ι F d v) (hb : (x == ("__debug__" : Str)) = false := by decide) : PE X (.Name x pos) (T K mg W (pureM d)) := me_c (pe_glob hg hm r hb) hd

/-! ### two in a row -/
theorem T.bind {ma : M D} {f : D → M D} {σ : L2.St} {H : Hp} {Q : VK} (h : T K mg W (bindM ma f) σ H Q) (k : ∀ (d : D) (c : Cfg) (v : V), c.σ = σ → Rep K mg c → RepV K mg c.h.ι c.h.F d v → Post K mg W c (fun d c' => ∀ v, RepV K mg c'.h.ι c'.h.F d v → Q v c'.h.H) (f d c.s) → P v c.h.H) : T K mg W ma σ H P := by
  obtain ⟨c, rfl, rfl, r, p⟩ := h
  refine ⟨c, rfl, rfl, r, (Post.bind (m := ma c.s) p).mono fun d c1 e1 r1 x1 p1 v hv => k d c1 v e1 r1 hv p1⟩
/-- an operator's mirror -/
def OpF (X : Cx) (mg : Str → Option Value) (g : Value → Value → Sem Value) (f : List Cell → D → D → Option D) : Prop :=
  ∃ r : R2, OpR X g r ∧ ∀ (c : Cfg) (x y d : D) (v w : V) (Q : VK), Rep X.K mg c → RepV X.K mg c.h.ι c.h.F x v → RepV X.K mg c.h.ι c.h.F y w → f c.h.st x y = some d →
    (∀ c' : Cfg, c'.s = c.s → c'.σ = c.σ → Rep X.K mg c' → Ext c c' → ∀ u, RepV X.K mg c'.h.ι c'.h.F d u → Q u c'.h.H) → r v w c.h.H Q
theorem op_core {g : Value → Value → Sem Value} {f : List Cell → D → D → Option D} {r : R2} (hr : ∀ (c : Cfg) (x y d : D) (v w : V) (Q : VK), Rep K mg c → RepV K mg c.h.ι c.h.F x v → RepV K mg c.h.ι c.h.F y w → f c.h.st x y = some d →
    (∀ c' : Cfg, c'.s = c.s → c'.σ = c.σ → Rep K mg c' → Ext c c' → ∀ u, RepV K mg c'.h.ι c'.h.F d u → Q u c'.h.H) → r v w c.h.H Q) {ma mb : M D} {σ : L2.St} {H : Hp} {Q : VK} (h : T K mg W (opM f ma mb) σ H Q) : tOp r (T K mg W ma) (T K mg W mb) σ H Q := by
  obtain ⟨c, rfl, rfl, rc, p⟩ := h
  refine ⟨c, rfl, rfl, rc, (Post.bind (m := ma c.s) p).mono fun x c1 e1 r1 x1 p1 v hv => ?_⟩
  refine ⟨c1, e1, rfl, r1, (Post.bind (m := mb c1.s) p1).mono fun y c2 e2 r2 x2 p2 w hw => ?_⟩
  cases hd : f c2.s.st x y with
  | none =>
    rw [hd] at p2
    exact p2.elim
  | some d =>
    rw [hd] at p2
    exact hr c2 x y d v w Q r2 (x2.repV hv) hw hd p2
theorem me_op {op : Operator} {f : List Cell → D → D → Option D} {a b : Expr} {ma mb : M D} {pos : Pos} (ho : OpF X mg (binaryOp op) f) (ha : PE X a (T X.K mg W ma)) (hb : PE X b (T X.K mg W mb)) : PE X (.BinOp a op b pos) (T X.K mg W (opM f ma mb)) := by
  obtain ⟨r, h1, h2⟩ := ho
  exact PE.imp (pe_op h1 ha hb) fun σ H Q h => op_core (g := binaryOp op) h2 h
theorem me_cmp {op : CmpOp} {f : List Cell → D → D → Option D} {a b : Expr} {ma mb : M D} {pos : Pos} (ho : OpF X mg (compareOp op) f) (ha : PE X a (T X.K mg W ma)) (hb : PE X b (T X.K mg W mb)) (hm : behindInMarks op b = false := by first | exact nomark _ (by decide) (by decide) | rfl) :
    PE X (.Compare a [op] [b] pos) (T X.K mg W (opM f ma mb)) := by
  obtain ⟨r, h1, h2⟩ := ho
  exact PE.imp (pe_cmpR h1 ha hb hm) fun σ H Q h => op_core (g := compareOp op) h2 h

/-! ### ints -/
def ii (f : Int → Int → Option D) : List Cell → D → D → Option D := fun _ x y => match x, y with
  | .int i, .int j => f i j
  | _, _ => none
theorem opf_ii {g : Value → Value → Sem Value} {C : Int → Int → Prop} {h : Int → Int → V} {f : Int → Int → Option D} (ho : OpR X g (rI C h)) (hc : ∀ i j d, f i j = some d → C i j ∧ ∀ ι F, RepV X.K mg ι F d (h i j)) : OpF X mg g (ii f) := by
  refine ⟨_, ho, fun c x y d v w Q rc hv hw e k => ?_⟩
  cases x with
  | int i =>
    cases y with
    | int j =>
      obtain rfl : v = .int i := hv
      obtain rfl : w = .int j := hw
      obtain ⟨h1, h2⟩ := hc i j d e
      exact ⟨i, j, rfl, rfl, h1, k c rfl rfl rc Ext0.refl _ (h2 _ _)⟩
    | _ => cases e
  | _ => cases e
theorem opf_ii0 {g : Value → Value → Sem Value} {h : Int → Int → V} {f : Int → Int → D} (ho : OpR X g (rI0 h)) (hc : ∀ i j ι F, RepV X.K mg ι F (f i j) (h i j)) : OpF X mg g (ii fun i j => some (f i j)) := by
  refine ⟨_, ho, fun c x y d v w Q rc hv hw e k => ?_⟩
  cases x with
  | int i =>
    cases y with
    | int j =>
      obtain rfl : v = .int i := hv
      obtain rfl : w = .int j := hw
      cases e
      exact ⟨i, j, rfl, rfl, k c rfl rfl rc Ext0.refl _ (hc _ _ _ _)⟩
    | _ => cases e
  | _ => cases e
def iAdd (i j : Int) : D := .int (i + j)
def iSub (i j : Int) : D := .int (i - j)
def iLt (i j : Int) : D := .bl (decide (i < j))
def iLe (i j : Int) : D := .bl (decide (i ≤ j))
def iGt (i j : Int) : D := .bl (decide (j < i))
def iGe (i j : Int) : D := .bl (decide (j ≤ i))
def iMul (i j : Int) : Option D := if i.natAbs.log2 + j.natAbs.log2 < 1000000 then some (.int (i * j)) else none
def iDiv (i j : Int) : Option D := if 0 < j ∧ j.natAbs.log2 < 9000 then some (.int (i / j)) else none
def iMod (i j : Int) : Option D := if 0 < j then some (.int (i % j)) else none
def iPow (i j : Int) : Option D := if 0 ≤ j ∧ j ≤ 1000000 ∧ i.natAbs < 2 ^ 64 then some (.int (i ^ j.toNat)) else none
theorem opf_sub : OpF X mg (binaryOp .Sub) (ii fun i j => some (iSub i j)) := opf_ii0 op_sub fun _ _ _ _ => rfl
theorem opf_lt : OpF X mg (compareOp .Lt) (ii fun i j => some (iLt i j)) := opf_ii0 op_lt fun _ _ _ _ => rfl
theorem opf_le : OpF X mg (compareOp .LtE) (ii fun i j => some (iLe i j)) := opf_ii0 op_le fun _ _ _ _ => rfl
theorem opf_gt : OpF X mg (compareOp .Gt) (ii fun i j => some (iGt i j)) := opf_ii0 op_gt fun _ _ _ _ => rfl
theorem opf_ge : OpF X mg (compareOp .GtE) (ii fun i j => some (iGe i j)) := opf_ii0 op_ge fun _ _ _ _ => rfl
theorem opf_div : OpF X mg (binaryOp .FloorDiv) (ii iDiv) := opf_ii op_fdivW fun i j d e => by
  unfold iDiv at e
  by_cases h : 0 < j ∧ j.natAbs.log2 < 9000
  · rw [if_pos h] at e
    cases e
    exact ⟨h, fun _ _ => rfl⟩
  · rw [if_neg h] at e
    cases e
theorem opf_mod : OpF X mg (binaryOp .Mod) (ii iMod) := opf_ii op_mod fun i j d e => by
  unfold iMod at e
  by_cases h : 0 < j
  · rw [if_pos h] at e
    cases e
    exact ⟨h, fun _ _ => rfl⟩
  · rw [if_neg h] at e
    cases e
theorem opf_pow : OpF X mg (binaryOp .Pow) (ii iPow) := opf_ii op_pow fun i j d e => by
  unfold iPow at e
  by_cases h : 0 ≤ j ∧ j ≤ 1000000 ∧ i.natAbs < 2 ^ 64
  · rw [if_pos h] at e
    cases e
    exact ⟨h, fun _ _ => rfl⟩
  · rw [if_neg h] at e
    cases e
end
end Mir
/-! M1b: equality, membership, truth, and, or, not, displays, subscripts. -/
namespace Mir
open PySem PySem.Spec PyProof.Rows L2

/-! ### data as a whole -/
def pyL (f : D → Option PyData) : List D → Option (List PyData)
  | [] => some []
  | d :: ds => match f d, pyL f ds with
    | some p, some q => some (p :: q)
    | _, _ => none
def py (st : List Cell) : Nat → D → Option PyData
  | 0, _ => none
  | n + 1, d => match d with
    | .non => some .none
    | .bl b => some (.bool b)
    | .int i => some (.int i)
    | .str x => if PyData.strOk x then some (.str x) else none
    | .lst xs => (pyL (py st n) xs).map .list
    | .tup xs => (pyL (py st n) xs).map .tuple
    | .ref k => match st[k]? with
      | some (.lst xs) => (pyL (py st n) xs).map .list
      | _ => none
    | .dct _ _ => none
    | .exc _ _ _ => none
    | .rng _ _ => none
    | .ty _ => none
    | .cls _ => none
section
variable {K : PySem.W.Frag} {mg : Str → Option Value} {W : WX} {X : Cx} {c : HC}
theorem pyL_dp {f : D → Option PyData} (hf : ∀ d v p, RepV K mg c.ι c.F d v → f d = some p → Dp K c.H v p) : ∀ (ds : List D) (vs : List V) (ps : List PyData), RepL K mg c.ι c.F ds vs → pyL f ds = some ps → DpAll K c.H vs ps
  | [], _, _, h, e => by
    have z : _ = [] := h
    rw [z]
    cases e
    exact .nil
  | d :: ds, _, _, h, e => by
    obtain ⟨v, w, rfl, q, l⟩ := h
    unfold pyL at e
    cases e1 : f d with
    | none =>
      rw [e1] at e
      cases e
    | some p =>
      cases e2 : pyL f ds with
      | none =>
        rw [e1, e2] at e
        cases e
      | some ps =>
        rw [e1, e2] at e
        cases e
        exact .cons (hf d v p q e1) (pyL_dp hf ds w ps l e2)
theorem py_dp (r : RepC K mg c) : ∀ (n : Nat) (d : D) (v : V) (p : PyData), RepV K mg c.ι c.F d v → py c.st n d = some p → Dp K c.H v p
  | 0, _, _, _, _, e => by cases e
  | n + 1, d, v, p, h, e => by
    cases d with
    | non =>
      obtain rfl : v = .non := h
      cases e
      exact .non
    | bl b =>
      obtain rfl : v = .bl b := h
      cases e
      exact .bl b
    | int i =>
      obtain rfl : v = .int i := h
      cases e
      exact .int i
    | str x =>
      obtain rfl : v = .str x := h
      simp only [py] at e
      by_cases hx : PyData.strOk x = true
      · rw [if_pos hx] at e
        cases e
        exact .str x
      · rw [if_neg hx] at e
        cases e
    | lst xs =>
      obtain ⟨a, vs, rfl, q, l⟩ := h
      simp only [py] at e
      cases e1 : pyL (py c.st n) xs with
      | none =>
        rw [e1] at e
        cases e
      | some ps =>
        rw [e1] at e
        cases e
        exact .lst (sqL_mono r.fr q) (pyL_dp (py_dp r n) xs vs ps l e1)
    | tup xs =>
      obtain ⟨a, vs, rfl, q, l⟩ := h
      simp only [py] at e
      cases e1 : pyL (py c.st n) xs with
      | none =>
        rw [e1] at e
        cases e
      | some ps =>
        rw [e1] at e
        cases e
        exact .tup (sqT_mono r.fr q) (pyL_dp (py_dp r n) xs vs ps l e1)
    | ref k =>
      obtain ⟨a, rfl, q⟩ := h
      simp only [py] at e
      cases hc : c.st[k]? with
      | none =>
        rw [hc] at e
        cases e
      | some x =>
        rw [hc] at e
        cases x with
        | lst xs =>
          obtain ⟨_, vs, e2, l⟩ := r.cell k a _ q hc
          replace e : (pyL (py c.st n) xs).map PyData.list = some p := e
          cases e1 : pyL (py c.st n) xs with
          | none =>
            rw [e1] at e
            cases e
          | some ps =>
            rw [e1] at e
            cases e
            exact .lst (.inl (.inl e2)) (pyL_dp (py_dp r n) xs vs ps l e1)
        | _ => cases e
    | _ => cases e
end
theorem pyL_ok {f : D → Option PyData} {n : Nat} (hf : ∀ d p, f d = some p → p.canLay0 = true ∧ p.depth ≤ n) : ∀ (ds : List D) (ps : List PyData), pyL f ds = some ps → PyData.canLayAll0 ps = true ∧ PyData.depthAll ps ≤ n
  | [], _, e => by
    cases e
    exact ⟨rfl, Nat.zero_le _⟩
  | d :: ds, _, e => by
    unfold pyL at e
    cases e1 : f d with
    | none =>
      rw [e1] at e
      cases e
    | some p =>
      cases e2 : pyL f ds with
      | none =>
        rw [e1, e2] at e
        cases e
      | some ps =>
        rw [e1, e2] at e
        cases e
        obtain ⟨a1, a2⟩ := hf d p e1
        obtain ⟨b1, b2⟩ := pyL_ok hf ds ps e2
        refine ⟨by simp only [PyData.canLayAll0, a1, b1, Bool.and_self], ?_⟩
        simp only [PyData.depthAll]
        omega
theorem py_ok {st : List Cell} : ∀ (n : Nat) (d : D) (p : PyData), py st n d = some p → p.canLay0 = true ∧ p.depth ≤ n
  | 0, _, _, e => by cases e
  | n + 1, d, p, e => by
    have L : ∀ xs ps, pyL (py st n) xs = some ps → PyData.canLayAll0 ps = true ∧ PyData.depthAll ps ≤ n := pyL_ok (py_ok n)
    cases d with
    | non =>
      cases e
      exact ⟨by simp only [PyData.canLay0], by simp only [PyData.depth]; omega⟩
    | bl b =>
      cases e
      exact ⟨by simp only [PyData.canLay0], by simp only [PyData.depth]; omega⟩
    | int i =>
      cases e
      exact ⟨by simp only [PyData.canLay0], by simp only [PyData.depth]; omega⟩
    | str x =>
      simp only [py] at e
      by_cases hx : PyData.strOk x = true
      · rw [if_pos hx] at e
        cases e
        exact ⟨by simp only [PyData.canLay0]; exact hx, by simp only [PyData.depth]; omega⟩
      · rw [if_neg hx] at e
        cases e
    | lst xs =>
      simp only [py] at e
      cases e1 : pyL (py st n) xs with
      | none =>
        rw [e1] at e
        cases e
      | some ps =>
        rw [e1] at e
        cases e
        obtain ⟨a1, a2⟩ := L xs ps e1
        exact ⟨by simp only [PyData.canLay0]; exact a1, by simp only [PyData.depth]; omega⟩
    | tup xs =>
      simp only [py] at e
      cases e1 : pyL (py st n) xs with
      | none =>
        rw [e1] at e
        cases e
      | some ps =>
        rw [e1] at e
        cases e
        obtain ⟨a1, a2⟩ := L xs ps e1
        exact ⟨by simp only [PyData.canLay0]; exact a1, by simp only [PyData.depth]; omega⟩
    | ref k =>
      simp only [py] at e
      cases hc : st[k]? with
      | none =>
        rw [hc] at e
        cases e
      | some x =>
        rw [hc] at e
        cases x with
        | lst xs =>
          replace e : (pyL (py st n) xs).map PyData.list = some p := e
          cases e1 : pyL (py st n) xs with
          | none =>
            rw [e1] at e
            cases e
          | some ps =>
            rw [e1] at e
            cases e
            obtain ⟨a1, a2⟩ := L xs ps e1
            exact ⟨by simp only [PyData.canLay0]; exact a1, by simp only [PyData.depth]; omega⟩
        | _ => cases e
    | _ => cases e
theorem py_shaped {st : List Cell} {n : Nat} {d : D} {p : PyData} (h : py st n d = some p) (hn : n ≤ 64) : SeqAt.shaped p = true := by
  obtain ⟨a, b⟩ := py_ok n d p h
  show (p.canLay0 && decide (p.depth ≤ 64)) = true
  rw [a, Bool.true_and]
  exact decide_eq_true (by omega)

/-! ### == -/
def eqD (st : List Cell) (x y : D) : Option Bool := match x, y with
  | .str a, .str b => some (decide (a = b))
  | x, y => match py st 20 x, py st 20 y with
    | some p, some q => some (PyData.eqv p q)
    | _, _ => none
def fEq (st : List Cell) (x y : D) : Option D := (eqD st x y).map D.bl
def fNe (st : List Cell) (x y : D) : Option D := (eqD st x y).map fun b => D.bl (!b)
section
variable {K : PySem.W.Frag} {mg : Str → Option Value} {W : WX} {X : Cx}
theorem eqD_cases {st : List Cell} {x y : D} {b : Bool} (h : eqD st x y = some b) : (∃ a b', x = .str a ∧ y = .str b' ∧ b = decide (a = b')) ∨ ∃ p q, py st 20 x = some p ∧ py st 20 y = some q ∧ b = PyData.eqv p q := by
  have gen : ∀ {x y : D}, (match py st 20 x, py st 20 y with
    | some p, some q => some (PyData.eqv p q)
    | _, _ => none) = some b → ∃ p q, py st 20 x = some p ∧ py st 20 y = some q ∧ b = PyData.eqv p q := fun {x y} h => by
    cases e1 : py st 20 x with
    | none =>
      rw [e1] at h
      cases h
    | some p =>
      cases e2 : py st 20 y with
      | none =>
        rw [e1, e2] at h
        cases h
      | some q =>
        rw [e1, e2] at h
        cases h
        exact ⟨p, q, rfl, rfl, rfl⟩
  cases x with
  | str a =>
    cases y with
    | str b' =>
      cases h
      exact .inl ⟨a, b', rfl, rfl, rfl⟩
    | _ => exact .inr (gen h)
  | _ => exact .inr (gen h)
theorem opf_eq {k : Nat} (hr : Room k X.A) : OpF X mg (compareOp .Eq) fEq := by
  refine ⟨_, op_eq.or (op_eqD hr.units), fun c x y d v w Q rc hv hw e kk => ?_⟩
  unfold fEq at e
  cases h : eqD c.h.st x y with
  | none =>
    rw [h] at e
    cases e
  | some b =>
    rw [h] at e
    cases e
    have q : Q (.bl b) c.h.H := kk c rfl rfl rc Ext0.refl _ rfl
    rcases eqD_cases h with ⟨a, b', rfl, rfl, rfl⟩ | ⟨p, q', h1, h2, rfl⟩
    · obtain rfl : v = .str a := hv
      obtain rfl : w = .str b' := hw
      refine .inl ⟨rfl, ?_⟩
      have e1 : decide (V.str a = V.str b') = decide (a = b') := by
        by_cases hh : a = b'
        · subst hh
          simp
        · rw [decide_eq_false hh]
          exact decide_eq_false fun z => hh (V.str.inj z)
      rw [e1]
      exact q
    · exact .inr ⟨p, q', py_dp rc.rc _ _ _ _ hv h1, py_dp rc.rc _ _ _ _ hw h2, py_shaped h1 (by decide), py_shaped h2 (by decide), q⟩
theorem opf_ne {k : Nat} (hr : Room k X.A) : OpF X mg (compareOp .NotEq) fNe := by
  refine ⟨_, op_ne.or (op_neD hr.units), fun c x y d v w Q rc hv hw e kk => ?_⟩
  unfold fNe at e
  cases h : eqD c.h.st x y with
  | none =>
    rw [h] at e
    cases e
  | some b =>
    rw [h] at e
    cases e
    have q : Q (.bl (!b)) c.h.H := kk c rfl rfl rc Ext0.refl _ rfl
    rcases eqD_cases h with ⟨a, b', rfl, rfl, rfl⟩ | ⟨p, q', h1, h2, rfl⟩
    · obtain rfl : v = .str a := hv
      obtain rfl : w = .str b' := hw
      refine .inl ⟨rfl, ?_⟩
      have e1 : decide (V.str a = V.str b') = decide (a = b') := by
        by_cases hh : a = b'
        · subst hh
          simp
        · rw [decide_eq_false hh]
          exact decide_eq_false fun z => hh (V.str.inj z)
      rw [e1]
      exact q
    · exact .inr ⟨p, q', py_dp rc.rc _ _ _ _ hv h1, py_dp rc.rc _ _ _ _ hw h2, py_shaped h1 (by decide), py_shaped h2 (by decide), q⟩
end
end Mir
/-! M2: truth, and, or, not, displays, subscripts, slices, built-ins by values. -/
namespace Mir
open PySem PySem.Spec PyProof.Rows L2

/-! ### truth -/
def truD (st : List Cell) : D → Option Bool
  | .non => some false
  | .bl b => some b
  | .int i => some (i != 0)
  | .str y => if y.length ≤ sizeLine then some ((y.length : Int) != 0) else none
  | .tup xs => some (!xs.isEmpty)
  | .lst xs => some (!xs.isEmpty)
  | .ref n => match st[n]? with
    | some (.lst xs) => some (!xs.isEmpty)
    | some (.dct xs) => some (!xs.isEmpty)
    | _ => none
  | .dct ks _ => some (!ks.isEmpty)
  | _ => none
section
variable {K : PySem.W.Frag} {mg : Str → Option Value} {W : WX} {X : Cx}
theorem repL_isEmpty {ι : List Addr} {F : Hp} {ds : List D} {vs : List V} (h : RepL K mg ι F ds vs) : ds.isEmpty = vs.isEmpty := by
  cases ds with
  | nil =>
    have z : vs = [] := h
    rw [z]
    rfl
  | cons d ds =>
    obtain ⟨v, w, rfl, _⟩ := h
    rfl
theorem repP_isEmpty {κ : Type} {ι : List Addr} {F : Hp} {ds : List (κ × D)} {vs : List (κ × V)} (h : RepP K mg ι F ds vs) : ds.isEmpty = vs.isEmpty := by
  cases ds with
  | nil =>
    have z : vs = [] := h
    rw [z]
    rfl
  | cons d ds =>
    obtain ⟨v, w, rfl, _⟩ := h
    rfl
theorem truD_rep {c : HC} (r : RepC K mg c) {d : D} {v : V} {b : Bool} (h : truD c.st d = some b) (hv : RepV K mg c.ι c.F d v) : TruV K v c.H b := by
  cases d with
  | non =>
    obtain rfl : v = .non := hv
    cases h
    exact (rfl : false = false)
  | bl k =>
    obtain rfl : v = .bl k := hv
    cases h
    exact (rfl : b = b)
  | int i =>
    obtain rfl : v = .int i := hv
    cases h
    exact (rfl : (i != 0) = (i != 0))
  | str y =>
    obtain rfl : v = .str y := hv
    simp only [truD] at h
    by_cases hy : y.length ≤ sizeLine
    · rw [if_pos hy] at h
      cases h
      exact ⟨hy, rfl⟩
    · rw [if_neg hy] at h
      cases h
  | lst xs =>
    obtain ⟨a, vs, rfl, q, l⟩ := hv
    cases h
    exact .inl ⟨vs, sqL_mono r.fr q, by rw [repL_isEmpty l]⟩
  | tup xs =>
    obtain ⟨a, vs, rfl, q, l⟩ := hv
    cases h
    exact .inr (.inl ⟨vs, sqT_mono r.fr q, by rw [repL_isEmpty l]⟩)
  | ref n =>
    obtain ⟨a, rfl, q⟩ := hv
    simp only [truD] at h
    cases hc : c.st[n]? with
    | none =>
      rw [hc] at h
      cases h
    | some x =>
      rw [hc] at h
      cases x with
      | lst xs =>
        obtain ⟨_, vs, e2, l⟩ := r.cell n a _ q hc
        cases h
        exact .inl ⟨vs, .inl (.inl e2), by rw [repL_isEmpty l]⟩
      | dct xs =>
        obtain ⟨_, vs, e2, l⟩ := r.cell n a _ q hc
        cases h
        exact .inr (.inr ⟨vs, e2, by rw [repP_isEmpty l]⟩)
      | _ => cases h
  | dct ks ds =>
    obtain ⟨a, vs, rfl, q, hl, l⟩ := hv
    cases h
    refine .inr (.inr ⟨_, r.fr _ _ q, ?_⟩)
    have e1 := RepL.length l
    cases ks with
    | nil => rfl
    | cons k ks =>
      cases vs with
      | nil =>
        simp only [List.length_cons, List.length_nil] at hl e1
        omega
      | cons v vs => rfl
  | _ => cases h
def truM (m : M D) : M Bool := bindM m fun x s => match truD s.st x with
  | some b => .ok b s
  | none => .bad
def andM (ma mb : M D) : M D := bindM ma fun x s => match truD s.st x with
  | some true => mb s
  | some false => .ok x s
  | none => .bad
def orM (ma mb : M D) : M D := bindM ma fun x s => match truD s.st x with
  | some true => .ok x s
  | some false => mb s
  | none => .bad
def notM (ma : M D) : M D := bindM ma fun x s => match truD s.st x with
  | some b => .ok (.bl (!b)) s
  | none => .bad
def iteM {α : Type} (t : M Bool) (ma mb : M α) : M α := bindM t fun b s => match b with
  | true => ma s
  | false => mb s
def andB (ma mb : M Bool) : M Bool := iteM ma mb (pureM false)
def orB (ma mb : M Bool) : M Bool := iteM ma (pureM true) mb
def notB (ma : M Bool) : M Bool := bindM ma fun b => pureM (!b)
/-- a comparison as a test -/
def isB (m : M D) : M Bool := bindM m fun x s => match x with
  | .bl b => .ok b s
  | _ => .bad
variable {a b e : Expr} {es rest : List Expr} {pos : Pos} {ma mb : M D} {tA tB : M Bool} {ms : M (List D)}
theorem me_one {op} (h : PE X a (T K mg W ma)) : PE X (.BoolOp op [a] pos) (T K mg W ma) := pe_one h
theorem me_and (ha : PE X a (T X.K mg W ma)) (hb : PE X (.BoolOp .And (b :: rest) pos) (T X.K mg W mb)) : PE X (.BoolOp .And (a :: b :: rest) pos) (T X.K mg W (andM ma mb)) := by
  refine PE.imp (pe_andT ha hb) fun σ H Q h => ?_
  obtain ⟨c, rfl, rfl, rc, p⟩ := h
  refine ⟨c, rfl, rfl, rc, (Post.bind (m := ma c.s) p).mono fun x c1 e1 r1 x1 p1 v hv => ?_⟩
  cases ht : truD c1.s.st x with
  | none =>
    rw [ht] at p1
    exact p1.elim
  | some k =>
    rw [ht] at p1
    refine ⟨k, truD_rep r1.rc ht hv, ?_⟩
    cases k with
    | true => exact iteT ⟨c1, e1, rfl, r1, p1⟩
    | false => exact iteF (p1.now r1 v hv)
theorem me_or (ha : PE X a (T X.K mg W ma)) (hb : PE X (.BoolOp .Or (b :: rest) pos) (T X.K mg W mb)) : PE X (.BoolOp .Or (a :: b :: rest) pos) (T X.K mg W (orM ma mb)) := by
  refine PE.imp (pe_orT ha hb) fun σ H Q h => ?_
  obtain ⟨c, rfl, rfl, rc, p⟩ := h
  refine ⟨c, rfl, rfl, rc, (Post.bind (m := ma c.s) p).mono fun x c1 e1 r1 x1 p1 v hv => ?_⟩
  cases ht : truD c1.s.st x with
  | none =>
    rw [ht] at p1
    exact p1.elim
  | some k =>
    rw [ht] at p1
    refine ⟨k, truD_rep r1.rc ht hv, ?_⟩
    cases k with
    | false => exact iteF ⟨c1, e1, rfl, r1, p1⟩
    | true => exact iteT (p1.now r1 v hv)
theorem me_not (ha : PE X a (T X.K mg W ma)) : PE X (.UnaryOp .Not a pos) (T X.K mg W (notM ma)) := by
  refine PE.imp (pe_notT ha) fun σ H Q h => ?_
  obtain ⟨c, rfl, rfl, rc, p⟩ := h
  refine ⟨c, rfl, rfl, rc, (Post.bind (m := ma c.s) p).mono fun x c1 e1 r1 x1 p1 v hv => ?_⟩
  cases ht : truD c1.s.st x with
  | none =>
    rw [ht] at p1
    exact p1.elim
  | some k =>
    rw [ht] at p1
    exact ⟨k, truD_rep r1.rc ht hv, p1.now r1 _ rfl⟩
theorem mt_tru (ha : PE X a (T X.K mg W ma)) (he : ∀ whole, isTrue a X.env whole = (do let v ← whole; standAt a.pos; holding [v] (truthy v)) := by intro _; rfl) : PT X a (TB X.K mg W (truM ma)) := by
  refine PT.imp (pt_truth ha he) fun σ H Q h => ?_
  obtain ⟨c, rfl, rfl, rc, p⟩ := h
  refine ⟨c, rfl, rfl, rc, (Post.bind (m := ma c.s) p).mono fun x c1 e1 r1 x1 p1 v hv => ?_⟩
  cases ht : truD c1.s.st x with
  | none =>
    rw [ht] at p1
    exact p1.elim
  | some k =>
    rw [ht] at p1
    exact ⟨k, truD_rep r1.rc ht hv, p1.now r1⟩
theorem isB_core {m : M D} {σ : L2.St} {H : Hp} {Q : Bool → Hp → Prop} (h : TB K mg W (isB m) σ H Q) : T K mg W m σ H fun x H' => ∃ k, x = .bl k ∧ Q k H' := by
  obtain ⟨c, rfl, rfl, rc, p⟩ := h
  refine ⟨c, rfl, rfl, rc, (Post.bind (m := m c.s) p).mono fun x c1 e1 r1 x1 p1 v hv => ?_⟩
  cases x with
  | bl k =>
    obtain rfl : v = .bl k := hv
    exact ⟨k, rfl, p1.now r1⟩
  | _ => exact p1.elim
theorem mt_cmp {op : CmpOp} {f : List Cell → D → D → Option D} (ho : OpF X mg (compareOp op) f) (ha : PE X a (T X.K mg W ma)) (hb : PE X b (T X.K mg W mb)) (hm : behindInMarks op b = false := by first | exact nomark _ (by decide) (by decide) | rfl) :
    PT X (.Compare a [op] [b] pos) (TB X.K mg W (isB (opM f ma mb))) := by
  obtain ⟨r, h1, h2⟩ := ho
  refine PT.imp (pt_cmpR h1 ha hb hm) fun σ H Q h => ?_
  exact op_core (g := compareOp op) h2 (isB_core h)
theorem mt_not (ha : PT X a (TB K mg W tA)) : PT X (.UnaryOp .Not a pos) (TB K mg W (notB tA)) := by
  refine PT.imp (pt_not ha) fun σ H Q h => ?_
  obtain ⟨c, rfl, rfl, rc, p⟩ := h
  exact ⟨c, rfl, rfl, rc, (Post.bind (m := tA c.s) p).mono fun x c1 e1 r1 x1 p1 => p1.now r1⟩
theorem mw_and1 (ha : PT X a (TB K mg W tA)) : PW X (.BoolOp .And [a] pos) (TB K mg W tA) := pw_and1 ha
theorem mw_or1 (ha : PT X a (TB K mg W tA)) : PW X (.BoolOp .Or [a] pos) (TB K mg W tA) := pw_or1 ha
theorem mw_and (ha : PT X a (TB K mg W tA)) (hb : PW X (.BoolOp .And (b :: rest) pos) (TB K mg W tB)) : PW X (.BoolOp .And (a :: b :: rest) pos) (TB K mg W (andB tA tB)) := by
  refine PW.imp (pw_and ha hb) fun σ H Q h => ?_
  obtain ⟨c, rfl, rfl, rc, p⟩ := h
  refine ⟨c, rfl, rfl, rc, (Post.bind (m := tA c.s) p).mono fun x c1 e1 r1 x1 p1 => ?_⟩
  cases x with
  | true => exact iteT ⟨c1, e1, rfl, r1, p1⟩
  | false => exact iteF (p1.now r1)
theorem mw_or (ha : PT X a (TB K mg W tA)) (hb : PW X (.BoolOp .Or (b :: rest) pos) (TB K mg W tB)) : PW X (.BoolOp .Or (a :: b :: rest) pos) (TB K mg W (orB tA tB)) := by
  refine PW.imp (pw_or ha hb) fun σ H Q h => ?_
  obtain ⟨c, rfl, rfl, rc, p⟩ := h
  refine ⟨c, rfl, rfl, rc, (Post.bind (m := tA c.s) p).mono fun x c1 e1 r1 x1 p1 => ?_⟩
  cases x with
  | false => exact iteF ⟨c1, e1, rfl, r1, p1⟩
  | true => exact iteT (p1.now r1)
theorem me_if {t : Expr} (ht : PT X t (TB K mg W tA)) (ha : PE X a (T K mg W ma)) (hb : PE X b (T K mg W mb)) : PE X (.IfExp t a b pos) (T K mg W (iteM tA ma mb)) := by
  refine PE.imp (pe_ifExp ht ha hb) fun σ H Q h => ?_
  obtain ⟨c, rfl, rfl, rc, p⟩ := h
  refine ⟨c, rfl, rfl, rc, (Post.bind (m := tA c.s) p).mono fun x c1 e1 r1 x1 p1 => ?_⟩
  cases x with
  | true => exact iteT ⟨c1, e1, rfl, r1, p1⟩
  | false => exact iteF ⟨c1, e1, rfl, r1, p1⟩

/-! ### chains -/
def chainM (f g : List Cell → D → D → Option D) (ma mb mc : M D) : M D := bindM ma fun x => bindM mb fun y s => match f s.st x y with
  | some (.bl true) => bindM mc (fun z s => match g s.st y z with
    | some d => .ok d s
    | none => .bad) s
  | some (.bl false) => .ok (.bl false) s
  | _ => .bad
theorem chain_core {g g' : Value → Value → Sem Value} {f f' : List Cell → D → D → Option D} {r r' : R2} (hr : ∀ (c : Cfg) (x y d : D) (v w : V) (Q : VK), Rep K mg c → RepV K mg c.h.ι c.h.F x v → RepV K mg c.h.ι c.h.F y w → f c.h.st x y = some d →
    (∀ c' : Cfg, c'.s = c.s → c'.σ = c.σ → Rep K mg c' → Ext c c' → ∀ u, RepV K mg c'.h.ι c'.h.F d u → Q u c'.h.H) → r v w c.h.H Q)
    (hr' : ∀ (c : Cfg) (x y d : D) (v w : V) (Q : VK), Rep K mg c → RepV K mg c.h.ι c.h.F x v → RepV K mg c.h.ι c.h.F y w → f' c.h.st x y = some d →
    (∀ c' : Cfg, c'.s = c.s → c'.σ = c.σ → Rep K mg c' → Ext c c' → ∀ u, RepV K mg c'.h.ι c'.h.F d u → Q u c'.h.H) → r' v w c.h.H Q) {ma mb mc : M D} {σ : L2.St} {H : Hp} {Q : VK} (h : T K mg W (chainM f f' ma mb mc) σ H Q) : tChain r r' (T K mg W ma) (T K mg W mb) (T K mg W mc) σ H Q := by
  obtain ⟨c, rfl, rfl, rc, p⟩ := h
  refine ⟨c, rfl, rfl, rc, (Post.bind (m := ma c.s) p).mono fun x c1 e1 r1 x1 p1 v hv => ?_⟩
  refine ⟨c1, e1, rfl, r1, (Post.bind (m := mb c1.s) p1).mono fun y c2 e2 r2 x2 p2 w hw => ?_⟩
  have hv2 := x2.repV hv
  cases hd : f c2.s.st x y with
  | none =>
    rw [hd] at p2
    exact p2.elim
  | some d =>
    rw [hd] at p2
    refine hr c2 x y d v w _ r2 hv2 hw hd fun c3 es eσ r3 x3 u hu => ?_
    cases d with
    | bl k =>
      obtain rfl : u = .bl k := hu
      refine ⟨k, rfl, ?_⟩
      cases k with
      | false => exact iteF ((Post.shift (c := c2) (P := fun d c' => ∀ v, RepV K mg c'.h.ι c'.h.F d v → Q v c'.h.H) p2 eσ x3) c3 es rfl r3 Ext0.refl _ rfl)
      | true =>
        refine iteT ⟨c3, eσ.trans (e2.trans e1), rfl, r3, ?_⟩
        have p3 := Post.shift p2 eσ x3
        rw [← es] at p3
        refine (Post.bind (m := mc c3.s) p3).mono fun z c4 e4 r4 x4 p4 q hq => ?_
        cases hd2 : f' c4.s.st y z with
        | none =>
          rw [hd2] at p4
          exact p4.elim
        | some d2 =>
          rw [hd2] at p4
          exact hr' c4 y z d2 w q Q r4 (x4.repV (x3.repV hw)) hq hd2 p4
    | _ => exact p2.elim
theorem me_chain {op op' : CmpOp} {f f' : List Cell → D → D → Option D} {x : Expr} {mc : M D} (ho : OpF X mg (compareOp op) f) (ho' : OpF X mg (compareOp op') f') (ha : PE X a (T X.K mg W ma)) (hb : PE X b (T X.K mg W mb)) (hc : PE X x (T X.K mg W mc))
    (hm : lastMarks [op, op'] [b, x] = false := by with_unfolding_all rfl) : PE X (.Compare a [op, op'] [b, x] pos) (T X.K mg W (chainM f f' ma mb mc)) := by
  obtain ⟨r, h1, h2⟩ := ho
  obtain ⟨r', h1', h2'⟩ := ho'
  exact PE.imp (pe_chain h1 h1' ha hb hc hm) fun σ H Q h => chain_core (g := compareOp op) (g' := compareOp op') h2 h2' h
theorem mt_chain {op op' : CmpOp} {f f' : List Cell → D → D → Option D} {x : Expr} {mc : M D} (ho : OpF X mg (compareOp op) f) (ho' : OpF X mg (compareOp op') f') (ha : PE X a (T X.K mg W ma)) (hb : PE X b (T X.K mg W mb)) (hc : PE X x (T X.K mg W mc))
    (hm : lastMarks [op, op'] [b, x] = false := by with_unfolding_all rfl) : PT X (.Compare a [op, op'] [b, x] pos) (TB X.K mg W (isB (chainM f f' ma mb mc))) := by
  obtain ⟨r, h1, h2⟩ := ho
  obtain ⟨r', h1', h2'⟩ := ho'
  exact PT.imp (pt_chain h1 h1' ha hb hc hm) fun σ H Q h => chain_core (g := compareOp op) (g' := compareOp op') h2 h2' (isB_core h)

/-! ### argument lists, displays -/
theorem ma_nil : PA X [] (TL K mg W (pureM [])) := by
  refine PA.imp pa_nil fun σ H Q h => ?_
  obtain ⟨c, rfl, rfl, rc, p⟩ := h
  exact Post.now (c := c) p rc _ rfl
theorem ma_cons (ha : PE X e (T K mg W ma)) (hr : PA X es (TL K mg W ms)) (hs : starEach (e :: es) X.env = (false, eval e X.env) :: starEach es X.env := by rfl) : PA X (e :: es) (TL K mg W (consM ma ms)) := by
  refine PA.imp (pa_cons ha hr hs) fun σ H Q h => ?_
  obtain ⟨c, rfl, rfl, rc, p⟩ := h
  refine ⟨c, rfl, rfl, rc, (Post.bind (m := ma c.s) p).mono fun x c1 e1 r1 x1 p1 v hv => ?_⟩
  refine ⟨c1, e1, rfl, r1, (Post.bind (m := ms c1.s) p1).mono fun y c2 e2 r2 x2 p2 w hw => ?_⟩
  exact Post.now (c := c2) p2 r2 _ ⟨v, w, rfl, x2.repV hv, hw⟩
def tupM (ms : M (List D)) : M D := bindM ms fun xs s => match decide (xs.length ≤ sizeLine) with
  | true => .ok (.tup xs) s
  | false => .bad
def lstM (ms : M (List D)) : M D := bindM ms fun xs s => match decide (xs.length ≤ sizeLine) with
  | true => .ok (.lst xs) s
  | false => .bad
/-- a new frozen thing is at hand -/
theorem Post.frz {c : Cfg} {d : D} {o : HO} {p : Addr} {Q : VK} (h : Post K mg W c (fun d c' => ∀ v, RepV K mg c'.h.ι c'.h.F d v → Q v c'.h.H) (.ok d c.s)) (rc : Rep K mg c) (hp : c.h.H p = none)
    (hd : RepV K mg (c.h.frz p o).ι (c.h.frz p o).F d (.ref p)) : Q (.ref p) (upd c.h.H p o) :=
  h (c.frz p o) rfl rfl (rc.frz hp) (Ext.frz rc hp) (.ref p) hd
theorem me_tup {x1} (h : PA X es (TL K mg W ms)) : PE X (.Tuple es x1 pos) (T K mg W (tupM ms)) := by
  refine PE.imp (pe_tup h) fun σ H Q h => ?_
  obtain ⟨c, rfl, rfl, rc, p⟩ := h
  refine ⟨c, rfl, rfl, rc, (Post.bind (m := ms c.s) p).mono fun x c1 e1 r1 x1 p1 v hv => ?_⟩
  have hl := RepL.length hv
  by_cases hx : x.length ≤ sizeLine
  · rw [decide_eq_true hx] at p1
    refine ⟨by omega, fun q hq => ?_⟩
    exact Post.frz (c := c1) p1 r1 hq (frz_tup (r1.rc.fnone hq) hv)
  · rw [decide_eq_false hx] at p1
    exact p1.elim
theorem me_lst (h : PA X es (TL K mg W ms)) : PE X (.List es pos) (T K mg W (lstM ms)) := by
  refine PE.imp (pe_lst h) fun σ H Q h => ?_
  obtain ⟨c, rfl, rfl, rc, p⟩ := h
  refine ⟨c, rfl, rfl, rc, (Post.bind (m := ms c.s) p).mono fun x c1 e1 r1 x1 p1 v hv => ?_⟩
  have hl := RepL.length hv
  by_cases hx : x.length ≤ sizeLine
  · rw [decide_eq_true hx] at p1
    refine ⟨by omega, fun q hq => ?_⟩
    exact Post.frz (c := c1) p1 r1 hq (frz_lst (r1.rc.fnone hq) hv)
  · rw [decide_eq_false hx] at p1
    exact p1.elim

/-! ### subscripts -/
theorem atI_rep {ι : List Addr} {F : Hp} {ds : List D} {vs : List V} {i : Int} {d : D} (l : RepL K mg ι F ds vs) (h : atI ds i = some d) : ∃ v, atI vs i = some v ∧ RepV K mg ι F d v := by
  unfold atI at h ⊢
  rw [← RepL.length l]
  cases e : ixN ds.length i with
  | none =>
    rw [e] at h
    cases h
  | some j =>
    rw [e] at h
    obtain ⟨v, h1, h2⟩ := RepL.get l (show ds[j]? = some d from h)
    exact ⟨v, h1, h2⟩
def ixD (st : List Cell) (x y : D) : Option D := match y with
  | .int i => match x with
    | .str z => if z.length ≤ sizeLine then (atI z.cps.toList i).map fun c => D.str ⟨#[c]⟩ else none
    | .tup xs => atI xs i
    | x => (lstOf st x).bind fun xs => atI xs i
  | _ => none
theorem me_ix {pos : Pos} (ha : PE X a (T X.K mg W ma)) (hb : PE X b (T X.K mg W mb)) (hs : PlainIx b := by exact fun _ _ => rfl) : PE X (.Subscript a b pos) (T X.K mg W (opM ixD ma mb)) := by
  refine PE.imp (pe_ix ix_seq ha hb hs) fun σ H Q h => ?_
  refine op_core (g := fun _ _ => pure .none) (r := rIx X.K) (fun c x y d v w Q rc hv hw e k => ?_) h
  unfold ixD at e
  cases y with
  | int i =>
    obtain rfl : w = .int i := hw
    have L : ∀ xs, lstOf c.h.st x = some xs → atI xs i = some d → rIx X.K v (.int i) c.h.H Q := fun xs h1 h2 => by
      obtain ⟨a, vs, rfl, q, l⟩ := lstOf_rep rc.rc h1 hv
      obtain ⟨u, e1, e2⟩ := atI_rep l h2
      exact .inl ⟨a, vs, i, u, rfl, rfl, q, e1, k c rfl rfl rc Ext0.refl u e2⟩
    cases x with
    | str z =>
      obtain rfl : v = .str z := hv
      replace e : (if z.length ≤ sizeLine then (atI z.cps.toList i).map fun c => D.str ⟨#[c]⟩ else none) = some d := e
      by_cases hz : z.length ≤ sizeLine
      · rw [if_pos hz] at e
        cases e1 : atI z.cps.toList i with
        | none =>
          rw [e1] at e
          cases e
        | some u =>
          rw [e1] at e
          cases e
          exact .inr (.inr ⟨z, i, u, rfl, rfl, hz, e1, k c rfl rfl rc Ext0.refl _ rfl⟩)
      · rw [if_neg hz] at e
        cases e
    | tup xs =>
      obtain ⟨a, vs, rfl, q, l⟩ := tupOf_rep rc.rc (ds := xs) rfl hv
      obtain ⟨u, e1, e2⟩ := atI_rep l e
      exact .inr (.inl ⟨a, vs, i, u, rfl, rfl, q, e1, k c rfl rfl rc Ext0.refl u e2⟩)
    | lst xs => exact L xs rfl e
    | ref n =>
      replace e : ((lstOf c.h.st (.ref n)).bind fun xs => atI xs i) = some d := e
      cases e1 : lstOf c.h.st (.ref n) with
      | none =>
        rw [e1] at e
        cases e
      | some xs =>
        rw [e1] at e
        exact L xs e1 e
    | _ => cases e
  | _ => cases e

/-! ### slices -/
def cutG {α : Type} (xs : List α) (lo hi : Option Int) : List α := (xs.drop (HT.sIx xs.length 0 lo)).take (HT.sIx xs.length xs.length hi - HT.sIx xs.length 0 lo)
theorem cut_rep {ι : List Addr} {F : Hp} {ds : List D} {vs : List V} {lo hi : Option Int} (l : RepL K mg ι F ds vs) : RepL K mg ι F (cutG ds lo hi) (cutV vs lo hi) := by
  unfold cutG cutV
  rw [RepL.length l]
  exact (l.drop _).take _
def TP1 (K : PySem.W.Frag) (mg : Str → Option Value) (W : WX) (m : M (Option Int)) : TO := fun σ H Q => ∃ c : Cfg, c.σ = σ ∧ c.h.H = H ∧ Rep K mg c ∧ Post K mg W c (fun b c' => Q b c'.h.H) (m c.s)
def partM (m : M D) : M (Option Int) := bindM m fun x s => match x with
  | .int i => .ok (some i) s
  | _ => .bad
theorem PO.imp {X : Cx} {e : Option Expr} {t t' : TO} (h : PO X e t) (k : ∀ σ H Q, t' σ H Q → t σ H Q) : PO X e t' := ⟨fun pins s σ H Q I q => h.run pins s σ H Q I (k σ H Q q)⟩
theorem mp_none : PO X none (TP1 K mg W (pureM none)) := by
  refine PO.imp po_none fun σ H Q h => ?_
  obtain ⟨c, rfl, rfl, rc, p⟩ := h
  exact Post.now (c := c) p rc
theorem mp_some (ha : PE X e (T K mg W ma)) : PO X (some e) (TP1 K mg W (partM ma)) := by
  refine PO.imp (po_some ha) fun σ H Q h => ?_
  obtain ⟨c, rfl, rfl, rc, p⟩ := h
  refine ⟨c, rfl, rfl, rc, (Post.bind (m := ma c.s) p).mono fun x c1 e1 r1 x1 p1 v hv => ?_⟩
  cases x with
  | int i =>
    obtain rfl : v = .int i := hv
    exact ⟨i, rfl, p1.now r1⟩
  | _ => exact p1.elim
def cutD (st : List Cell) (x : D) (lo hi : Option Int) : Option D := match x with
  | .str z => if z.length ≤ sizeLine then some (.str (cutS z lo hi)) else none
  | x => (lstOf st x).map fun xs => D.lst (cutG xs lo hi)
def sliceM (ma : M D) (ml mh : M (Option Int)) : M D := bindM ma fun x => bindM ml fun lo => bindM mh fun hi s => match cutD s.st x lo hi with
  | some d => .ok d s
  | none => .bad
theorem me_slice {lo hi : Option Expr} {ml mh : M (Option Int)} {p2 : Pos} (ha : PE X a (T X.K mg W ma)) (hl : PO X lo (TP1 X.K mg W ml)) (hh : PO X hi (TP1 X.K mg W mh)) : PE X (.Subscript a (.Slice lo hi none p2) pos) (T X.K mg W (sliceM ma ml mh)) := by
  refine PE.imp (pe_slice (sl_list.or sl_str) ha hl hh) fun σ H Q h => ?_
  obtain ⟨c, rfl, rfl, rc, p⟩ := h
  refine ⟨c, rfl, rfl, rc, (Post.bind (m := ma c.s) p).mono fun x c1 e1 r1 x1 p1 v hv => ?_⟩
  refine ⟨c1, e1, rfl, r1, (Post.bind (m := ml c1.s) p1).mono fun l c2 e2 r2 x2 p2 => ?_⟩
  refine ⟨c2, e2.trans e1, rfl, r2, (Post.bind (m := mh c2.s) p2).mono fun u c3 e3 r3 x3 p3 => ?_⟩
  have hv3 := x3.repV (x2.repV hv)
  have L : ∀ xs, lstOf c3.s.st x = some xs → Post X.K mg W c3 (fun d c' => ∀ v, RepV X.K mg c'.h.ι c'.h.F d v → Q v c'.h.H) (.ok (.lst (cutG xs l u)) c3.s) → rSlL X.K v l u c3.h.H Q := fun xs h1 h2 => by
    obtain ⟨a, vs, rfl, q, lv⟩ := lstOf_rep r3.rc h1 hv3
    exact ⟨a, vs, rfl, q, fun q hq => Post.frz (c := c3) h2 r3 hq (frz_lst (r3.rc.fnone hq) (cut_rep lv))⟩
  have G : x ≠ .str ⟨#[]⟩ ∨ True := .inr trivial
  cases x with
  | str z =>
    obtain rfl : v = .str z := hv
    replace p3 : Post X.K mg W c3 (fun d c' => ∀ v, RepV X.K mg c'.h.ι c'.h.F d v → Q v c'.h.H) (match (if z.length ≤ sizeLine then some (D.str (cutS z l u)) else none) with
      | some d => .ok d c3.s
      | none => .bad) := p3
    by_cases hz : z.length ≤ sizeLine
    · rw [if_pos hz] at p3
      exact .inr ⟨z, rfl, hz, Post.now (c := c3) p3 r3 _ rfl⟩
    · rw [if_neg hz] at p3
      exact p3.elim
  | lst xs => exact .inl (L xs rfl p3)
  | ref n =>
    replace p3 : Post X.K mg W c3 (fun d c' => ∀ v, RepV X.K mg c'.h.ι c'.h.F d v → Q v c'.h.H) (match ((lstOf c3.s.st (.ref n)).map fun xs => D.lst (cutG xs l u)) with
      | some d => .ok d c3.s
      | none => .bad) := p3
    cases e5 : lstOf c3.s.st (.ref n) with
    | none =>
      rw [e5] at p3
      exact p3.elim
    | some xs =>
      rw [e5] at p3
      exact .inl (L xs e5 p3)
  | _ => exact p3.elim

/-! ### built-ins by values -/
def CallF (X : Cx) (mg : Str → Option Value) (g : Value) (f : List Cell → List D → Option D) : Prop :=
  ∃ r, CallR X g r ∧ ∀ (c : Cfg) (xs : List D) (d : D) (vs : List V) (Q : VK), Rep X.K mg c → RepL X.K mg c.h.ι c.h.F xs vs → f c.h.st xs = some d →
    (∀ c' : Cfg, c'.s = c.s → c'.σ = c.σ → Rep X.K mg c' → Ext c c' → ∀ u, RepV X.K mg c'.h.ι c'.h.F d u → Q u c'.h.H) → r vs c.h.H Q
theorem call_core {f : List Cell → List D → Option D} {r : List V → Hp → VK → Prop} (hr : ∀ (c : Cfg) (xs : List D) (d : D) (vs : List V) (Q : VK), Rep K mg c → RepL K mg c.h.ι c.h.F xs vs → f c.h.st xs = some d →
    (∀ c' : Cfg, c'.s = c.s → c'.σ = c.σ → Rep K mg c' → Ext c c' → ∀ u, RepV K mg c'.h.ι c'.h.F d u → Q u c'.h.H) → r vs c.h.H Q) {σ : L2.St} {H : Hp} {Q : VK} (h : T K mg W (fnM f ms) σ H Q) : tCB r (TL K mg W ms) σ H Q := by
  obtain ⟨c, rfl, rfl, rc, p⟩ := h
  refine ⟨c, rfl, rfl, rc, (Post.bind (m := ms c.s) p).mono fun x c1 e1 r1 x1 p1 v hv => ?_⟩
  cases hd : f c1.s.st x with
  | none =>
    rw [hd] at p1
    exact p1.elim
  | some d =>
    rw [hd] at p1
    exact hr c1 x d v Q r1 hv hd p1
variable {x : Str} {p : Pos} {id Ty : String} {f : List Cell → List D → Option D}
theorem me_callB (hc : CallF X mg (.builtin id) f) (hg : Gl X x) (hm : X.mg x = none) (hv : bootBuiltins x = some (.builtin id)) (ha : PA X (e :: es) (TL X.K mg W ms)) (hn : x ≠ "__name__" := by decide) (hdb : (x == ("__debug__" : Str)) = false := by decide)
    (he : starEach (e :: es) X.env = (false, eval e X.env) :: starEach es X.env := by rfl) (hpl : (backTo pos (starEach es X.env)).any (·.1) = false := by rfl) : PE X (.Call (.Name x p) (e :: es) [] pos) (T X.K mg W (fnM f ms)) := by
  obtain ⟨r, h1, h2⟩ := hc
  exact PE.imp (pe_callB h1 hg hm hv ha hn hdb he hpl) fun σ H Q h => call_core h2 h
theorem me_callTy (hc : CallF X mg (.type Ty) f) (hg : Gl X x) (hm : X.mg x = none) (hv : bootBuiltins x = some (.type Ty)) (ha : PA X (e :: es) (TL X.K mg W ms)) (hn : x ≠ "__name__" := by decide) (hdb : (x == ("__debug__" : Str)) = false := by decide)
    (he : starEach (e :: es) X.env = (false, eval e X.env) :: starEach es X.env := by rfl) (hpl : (backTo pos (starEach es X.env)).any (·.1) = false := by rfl) : PE X (.Call (.Name x p) (e :: es) [] pos) (T X.K mg W (fnM f ms)) := by
  obtain ⟨r, h1, h2⟩ := hc
  exact PE.imp (pe_callTy h1 hg hm hv ha hn hdb he hpl) fun σ H Q h => call_core h2 h
end
end Mir
/-! M3: statements: blocks, assignments, if, return, for. -/
namespace Mir
open PySem PySem.Spec PyProof.Rows L2

inductive RS where
  | next (s : S)
  | ret (d : D) (s : S)
  | brk (s : S)
  | cont (s : S)
  | exc (x : Ex) (s : S)
  | bad
abbrev MS := S → RS
section
variable (K : PySem.W.Frag) (mg : Str → Option Value) (W : WX)
def PostS (D0 : Ends) (c : Cfg) : RS → Prop
  | .next s => ∀ c' : Cfg, c'.s = s → Rep K mg c' → Ext c c' → D0.nx c'.σ c'.h.H
  | .ret d s => ∀ (c' : Cfg) (v : V), c'.s = s → Rep K mg c' → Ext c c' → RepV K mg c'.h.ι c'.h.F d v → D0.rt v c'.h.H
  | .brk s => ∀ c' : Cfg, c'.s = s → Rep K mg c' → Ext c c' → D0.bk c'.σ c'.h.H
  | .cont s => ∀ c' : Cfg, c'.s = s → Rep K mg c' → Ext c c' → D0.ct c'.σ c'.h.H
  | .exc x s => ∀ (c' : Cfg) (cv : Value) (da : Option Addr), c'.s = s → Rep K mg c' → Ext c c' → RepX K mg c'.h x cv da → W cv da c'.σ c'.h.H
  | .bad => False
def TSt (m : MS) : TS := fun D0 σ H => ∃ c : Cfg, c.σ = σ ∧ c.h.H = H ∧ Rep K mg c ∧ PostS K mg W D0 c (m c.s)
/-- a target's mirror -/
def TGt (g : D → MS) : TG := fun v σ H Q => ∃ (c : Cfg) (d : D), c.σ = σ ∧ c.h.H = H ∧ Rep K mg c ∧ RepV K mg c.h.ι c.h.F d v ∧ match g d c.s with
  | .next s => ∀ c' : Cfg, c'.s = s → Rep K mg c' → Ext c c' → Q c'.σ c'.h.H
  | _ => False
end
def bindS {α : Type} (m : M α) (f : α → MS) : MS := fun s => match m s with
  | .ok a s' => f a s'
  | .exc x s' => .exc x s'
  | .bad => .bad
def seqS (m m' : MS) : MS := fun s => match m s with
  | .next s' => m' s'
  | r => r
def nextS : MS := fun s => .next s
def badS : MS := fun _ => .bad
def brkS : MS := fun s => .brk s
def contS : MS := fun s => .cont s
def retS (m : M D) : MS := bindS m fun d s => .ret d s
def retN : MS := fun s => .ret .non s
def exprS (m : M D) : MS := bindS m fun _ s => .next s
def ifS (t : M Bool) (a b : MS) : MS := bindS t fun k s => match k with
  | true => a s
  | false => b s
def setD (i : Nat) (d : D) : MS := fun s => .next { s with sl := s.sl.set i (some (.val d)) }
def setS (m : M D) (g : D → MS) : MS := bindS m fun d => g d
section
variable {K : PySem.W.Frag} {mg : Str → Option Value} {W : WX} {X : Cx} {c c1 : Cfg} {D0 D1 : Ends} {α : Type}
theorem PostS.shift {r : RS} (h : PostS K mg W D0 c r) (x : Ext c c1) : PostS K mg W D0 c1 r := by
  cases r with
  | next s => exact fun c' e r y => h c' e r (x.trans y)
  | ret d s => exact fun c' v e r y q => h c' v e r (x.trans y) q
  | brk s => exact fun c' e r y => h c' e r (x.trans y)
  | cont s => exact fun c' e r y => h c' e r (x.trans y)
  | exc z s => exact fun c' cv da e r y q => h c' cv da e r (x.trans y) q
  | bad => exact h
theorem PostS.bind {m : M α} {f : α → MS} (h : PostS K mg W D0 c (bindS m f c.s)) : Post K mg W c (fun a c1 => PostS K mg W D0 c1 (f a c1.s)) (m c.s) := by
  unfold bindS at h
  cases e : m c.s with
  | ok a s =>
    rw [e] at h
    intro c' e1 e2 r x
    rw [e1]
    exact PostS.shift h x
  | exc z s =>
    rw [e] at h
    exact fun c' cv da e1 e2 r x q => h c' cv da e1 r x q
  | bad =>
    rw [e] at h
    exact h
variable {st : Stmt} {sts : List Stmt} {e t a b : Expr} {m m' : MS} {ma : M D} {tA : M Bool} {pos : Pos}
theorem mss_nil : PSs X [] (TSt K mg W nextS) := by
  refine PSs.imp pss_nil fun D0 σ H h => ?_
  obtain ⟨c, rfl, rfl, rc, p⟩ := h
  exact p c rfl rc Ext0.refl
theorem mss_cons (h1 : PS X st (TSt K mg W m)) (h2 : PSs X sts (TSt K mg W m')) : PSs X (st :: sts) (TSt K mg W (seqS m m')) := by
  refine PSs.imp (pss_cons h1 h2) fun D0 σ H h => ?_
  obtain ⟨c, rfl, rfl, rc, p⟩ := h
  refine ⟨c, rfl, rfl, rc, ?_⟩
  unfold seqS at p
  cases e : m c.s with
  | next s =>
    rw [e] at p
    refine fun c' e1 r x => ⟨c', rfl, rfl, r, ?_⟩
    rw [e1]
    exact PostS.shift p x
  | ret d s =>
    rw [e] at p
    exact p
  | brk s =>
    rw [e] at p
    exact p
  | cont s =>
    rw [e] at p
    exact p
  | exc z s =>
    rw [e] at p
    exact p
  | bad =>
    rw [e] at p
    exact p
theorem mss_one (h : PS X st (TSt K mg W m)) : PSs X [st] (TSt K mg W m) := pss_one h
theorem ms_pass : PS X (.Pass pos) (TSt K mg W nextS) := by
  refine PS.imp ps_pass fun D0 σ H h => ?_
  obtain ⟨c, rfl, rfl, rc, p⟩ := h
  exact p c rfl rc Ext0.refl
theorem ms_break : PS X (.Break pos) (TSt K mg W brkS) := by
  refine PS.imp ps_break fun D0 σ H h => ?_
  obtain ⟨c, rfl, rfl, rc, p⟩ := h
  exact p c rfl rc Ext0.refl
theorem ms_continue : PS X (.Continue pos) (TSt K mg W contS) := by
  refine PS.imp ps_continue fun D0 σ H h => ?_
  obtain ⟨c, rfl, rfl, rc, p⟩ := h
  exact p c rfl rc Ext0.refl
theorem ms_doc {x j pos pos'} : PS X (.Expr (.Constant (.str x) j pos) pos') (TSt K mg W nextS) := by
  refine PS.imp ps_doc fun D0 σ H h => ?_
  obtain ⟨c, rfl, rfl, rc, p⟩ := h
  exact p c rfl rc Ext0.refl
theorem ms_never : PS X st (TSt K mg W badS) := by
  refine PS.imp ps_never fun D0 σ H h => ?_
  obtain ⟨c, rfl, rfl, rc, p⟩ := h
  exact p
theorem ms_expr (he : PE X e (T K mg W ma)) (hs : swapsWith e none pos.line X.env = pure false := by rfl) : PS X (.Expr e pos) (TSt K mg W (exprS ma)) := by
  refine PS.imp (ps_expr he hs) fun D0 σ H h => ?_
  obtain ⟨c, rfl, rfl, rc, p⟩ := h
  refine ⟨c, rfl, rfl, rc, (PostS.bind (m := ma) p).mono fun x c1 e1 r1 x1 p1 v hv => ?_⟩
  have q := p1 c1 rfl r1 Ext0.refl
  rw [e1] at q
  exact q
theorem ms_ret (he : PE X e (T K mg W ma)) : PS X (.Return (some e) pos) (TSt K mg W (retS ma)) := by
  refine PS.imp (ps_ret he) fun D0 σ H h => ?_
  obtain ⟨c, rfl, rfl, rc, p⟩ := h
  refine ⟨c, rfl, rfl, rc, (PostS.bind (m := ma) p).mono fun x c1 e1 r1 x1 p1 v hv => ?_⟩
  exact p1 c1 v rfl r1 Ext0.refl hv
theorem ms_retN : PS X (.Return none pos) (TSt K mg W retN) := by
  refine PS.imp ps_retN fun D0 σ H h => ?_
  obtain ⟨c, rfl, rfl, rc, p⟩ := h
  exact p c .non rfl rc Ext0.refl rfl
theorem ms_if {p q : List Stmt} (ht : PT X t (TB K mg W tA)) (ha : PSs X p (TSt K mg W m)) (hb : PSs X q (TSt K mg W m')) : PS X (.If t p q pos) (TSt K mg W (ifS tA m m')) := by
  refine PS.imp (ps_if ht ha hb) fun D0 σ H h => ?_
  obtain ⟨c, rfl, rfl, rc, p⟩ := h
  refine ⟨c, rfl, rfl, rc, (PostS.bind (m := tA) p).mono fun x c1 e1 r1 x1 p1 => ?_⟩
  cases x with
  | true => exact iteT ⟨c1, e1, rfl, r1, p1⟩
  | false => exact iteF ⟨c1, e1, rfl, r1, p1⟩

/-! ### a slot takes a value -/
def Cfg.put (c : Cfg) (i : Nat) (d : D) (v : V) : Cfg := { c with sl := c.sl.set i (some (.val d)), σ := c.σ.set i (some v) }
theorem put_ne {l : List (Option SV)} {i j : Nat} {d : D} {x : Cell} (h : (l.set i (some (.val d)))[j]? = some (some (.own x))) : j ≠ i ∧ l[j]? = some (some (.own x)) := by
  by_cases e : i = j
  · subst e
    by_cases hl : i < l.length
    · rw [List.getElem?_set_self hl] at h
      cases h
    · rw [List.getElem?_eq_none (by simpa using hl)] at h
      cases h
  · rw [List.getElem?_set_ne e] at h
    exact ⟨fun z => e z.symm, h⟩
theorem Rep.put {i : Nat} {d : D} {v : V} (r : Rep K mg c) (hv : RepV K mg c.h.ι c.h.F d v) : Rep K mg (c.put i d v) := by
  refine ⟨r.rc, ?_, fun j d' e => ?_, fun j x e => ?_, fun j j' x y a e1 e2 e3 e4 => ?_⟩
  · show (c.sl.set i _).length = (c.σ.set i _).length
    rw [List.length_set, List.length_set]
    exact r.sln
  · replace e : (c.sl.set i (some (.val d)))[j]? = some (some (.val d')) := e
    by_cases h : i = j
    · subst h
      by_cases hl : i < c.sl.length
      · rw [List.getElem?_set_self hl] at e
        cases e
        exact ⟨v, List.getElem?_set_self (by rw [← r.sln]; exact hl), hv⟩
      · rw [List.getElem?_eq_none (by simpa using hl)] at e
        cases e
    · rw [List.getElem?_set_ne h] at e
      obtain ⟨w, h1, h2⟩ := r.val j d' e
      exact ⟨w, by show (c.σ.set i _)[j]? = _; rw [List.getElem?_set_ne h]; exact h1, h2⟩
  · obtain ⟨h, e⟩ := put_ne e
    obtain ⟨a, h1, h2⟩ := r.own j x e
    exact ⟨a, by show (c.σ.set i _)[j]? = _; rw [List.getElem?_set_ne h.symm]; exact h1, h2⟩
  · obtain ⟨h, e1⟩ := put_ne e1
    obtain ⟨h', e2⟩ := put_ne e2
    refine r.dis j j' x y a e1 e2 ?_ ?_
    · rw [← List.getElem?_set_ne (a := some v) h.symm]
      exact e3
    · rw [← List.getElem?_set_ne (a := some v) h'.symm]
      exact e4
theorem Ext.put {i : Nat} {d : D} {v : V} : Ext c (c.put i d v) := ⟨⟨[], by simp [Cfg.put]⟩, fun _ _ h => h, fun _ _ h _ => h, fun _ h => h, fun _ _ h => .inl h, fun a h => .inl (by
  rcases h with h | ⟨j, x, e1, e2⟩
  · exact .inl h
  · obtain ⟨h, e1⟩ := put_ne e1
    exact .inr ⟨j, x, e1, by rw [← List.getElem?_set_ne (a := some v) h.symm]; exact e2⟩)⟩
theorem mg_name {i : Nat} {x : Str} (hN : X.N.Nodup) (hi : X.N[i]? = some x) (hx : Loc X.env.scope x) (hf : X.fn x = true ∨ X.env.scope.names.lookup x = some .local := by first | exact .inl rfl | exact .inr rfl | assumption) : PG X (.Name x pos) (TGt K mg (setD i)) := by
  have h := pg_name (pos := pos) hN hi hx hf
  refine ⟨fun pins s σ H v u Q I r q => h.run pins s σ H v u Q I r ?_⟩
  obtain ⟨c, d, rfl, rfl, rc, hv, p⟩ := q
  exact p (c.put i d v) rfl (rc.put hv) Ext.put
theorem ms_set {i : Nat} {x : Str} {pos' : Pos} (hN : X.N.Nodup) (hi : X.N[i]? = some x) (hx : Loc X.env.scope x) (he : PE X e (T K mg W ma)) (hs : swapsWith e (some (.Name x pos')) pos.line X.env = pure false := by rfl) (hf : X.fn x = true ∨ X.env.scope.names.lookup x = some .local := by first | exact .inl rfl | exact .inr rfl | assumption) :
    PS X (.Assign [.Name x pos'] e pos) (TSt K mg W (setS ma (setD i))) := by
  refine PS.imp (ps_set hN hi hx he hs hf) fun D0 σ H h => ?_
  obtain ⟨c, rfl, rfl, rc, p⟩ := h
  refine ⟨c, rfl, rfl, rc, (PostS.bind (m := ma) p).mono fun d c1 e1 r1 x1 p1 v hv => ?_⟩
  have q := p1 (c1.put i d v) rfl (r1.put hv) Ext.put
  rw [← e1]
  exact q
end
end Mir
/-! M4: cells changed, pairs of names, for. -/
namespace Mir
open PySem PySem.Spec PyProof.Rows L2
section
variable {K : PySem.W.Frag} {mg : Str → Option Value} {W : WX} {X : Cx} {c c1 : Cfg} {D0 D1 : Ends} {α : Type}

/-! ### a cell changes -/
def HC.cset (h : HC) (n : Nat) (a : Addr) (x : Cell) (o : HO) : HC := { h with st := h.st.set n x, H := upd h.H a o }
def Cfg.cset (c : Cfg) (n : Nat) (a : Addr) (x : Cell) (o : HO) : Cfg := { c with h := c.h.cset n a x o }
theorem nd_at {l : List Addr} (h : l.Nodup) {i j : Nat} {a : Addr} (e1 : l[i]? = some a) (e2 : l[j]? = some a) : i = j := by
  obtain ⟨h1, e1⟩ := List.getElem?_eq_some_iff.mp e1
  obtain ⟨h2, e2⟩ := List.getElem?_eq_some_iff.mp e2
  exact (List.getElem_inj h).mp (e1.trans e2.symm)
theorem CellAt.away {h : HC} {n : Nat} {a b : Addr} {x y : Cell} {o : HO} (hb : b ≠ a) (q : CellAt K mg h b y) : CellAt K mg (h.cset n a x o) b y := by
  have e : (upd h.H a o) b = h.H b := upd_ne hb
  cases y with
  | lst ds =>
    obtain ⟨z, vs, e2, l⟩ := q
    exact ⟨z, vs, e.trans e2, l⟩
  | dct ds =>
    obtain ⟨z, vs, e2, l⟩ := q
    exact ⟨z, vs, e.trans e2, l⟩
  | ins C fs =>
    obtain ⟨z, ca, dx, vs, g, e2, l⟩ := q
    exact ⟨z, ca, dx, vs, g, e.trans e2, l⟩
  | dead => exact True.intro
theorem RepC.cset {h : HC} {n : Nat} {a : Addr} {x : Cell} {o : HO} (r : RepC K mg h) (ha : h.ι[n]? = some a) (hF : h.F a = none) (hx : CellAt K mg (h.cset n a x o) a x) : RepC K mg (h.cset n a x o) := by
  refine ⟨fun b u e => ?_, r.nd, by show h.ι.length = (h.st.set n x).length; rw [List.length_set]; exact r.len, fun m b y e1 e2 => ?_, fun b h => upd_there (r.tr b h)⟩
  · have hb : b ≠ a := fun z => by
      have e' : h.F b = some u := e
      rw [z, hF] at e'
      cases e'
    show (upd h.H a o) b = some u
    rw [upd_ne hb]
    exact r.fr b u e
  · by_cases hm : n = m
    · subst hm
      have e1' : h.ι[n]? = some b := e1
      rw [ha] at e1'
      cases e1'
      have e2' : (h.st.set n x)[n]? = some y := e2
      have hl : n < h.st.length := by
        rw [← r.len]
        exact (List.getElem?_eq_some_iff.mp ha).1
      rw [List.getElem?_set_self hl] at e2'
      cases e2'
      exact hx
    · have e2' : (h.st.set n x)[m]? = some y := e2
      rw [List.getElem?_set_ne hm] at e2'
      have hb : b ≠ a := fun z => by
        subst z
        exact hm (nd_at r.nd ha e1)
      exact (r.cell m b y e1 e2').away hb
theorem Rep.cset {n : Nat} {a : Addr} {x : Cell} {o : HO} (r : Rep K mg c) (ha : c.h.ι[n]? = some a) (hF : c.h.F a = none) (hx : CellAt K mg (c.h.cset n a x o) a x) : Rep K mg (c.cset n a x o) := by
  refine ⟨r.rc.cset ha hF hx, r.sln, r.val, fun i y e => ?_, r.dis⟩
  obtain ⟨b, h1, h2, h3, h4, h5⟩ := r.own i y e
  have hb : b ≠ a := fun z => by
    subst z
    exact h2 (List.mem_of_getElem? ha)
  exact ⟨b, h1, h2, h3, by show (upd c.h.H a o) b ≠ none; rw [upd_ne hb]; exact h4, h5.away hb⟩
theorem Ext.cset {n : Nat} {a : Addr} {x : Cell} {o : HO} (ha : c.h.ι[n]? = some a) : Ext c (c.cset n a x o) := by
  refine ⟨⟨[], by simp [Cfg.cset, HC.cset]⟩, fun _ _ h => h, fun b u e hm => ?_, fun b e => ?_, fun _ _ h => .inl h, fun b h => .inl h⟩
  · show (upd c.h.H a o) b = some u
    rw [upd_ne (fun z => hm (.inl (by rw [z]; exact List.mem_of_getElem? ha)))]
    exact e
  · have e' : (upd c.h.H a o) b = none := e
    by_cases hb : b = a
    · rw [hb, upd_same] at e'
      cases e'
    · rw [upd_ne hb] at e'
      exact e'
/-- the list of a cell changes -/
theorem cset_lst {h : HC} {n : Nat} {a : Addr} {ds : List D} {vs : List V} (hF : h.F a = none) (l : RepL K mg h.ι h.F ds vs) : CellAt K mg (h.cset n a (.lst ds) (.lst vs)) a (.lst ds) := ⟨hF, vs, upd_same, l⟩

/-! ### o[i] = v -/
def putIx (st : List Cell) (o i d : D) : Option (Nat × Cell) := match o, i with
  | .ref n, .int k => match st[n]? with
    | some (.lst xs) => (ixN xs.length k).map fun j => (n, Cell.lst (xs.set j d))
    | _ => none
  | _, _ => none
def subG (mo mi : M D) : D → MS := fun d => bindS mo fun o => bindS mi fun i s => match putIx s.st o i d with
  | some p => .next { s with st := s.st.set p.1 p.2 }
  | none => .bad
theorem putIx_cases {st : List Cell} {o i d : D} {p : Nat × Cell} (h : putIx st o i d = some p) : ∃ n k xs j, o = .ref n ∧ i = .int k ∧ st[n]? = some (.lst xs) ∧ ixN xs.length k = some j ∧ p = (n, .lst (xs.set j d)) := by
  cases o with
  | ref n =>
    cases i with
    | int k =>
      simp only [putIx] at h
      cases hc : st[n]? with
      | none =>
        rw [hc] at h
        cases h
      | some x =>
        rw [hc] at h
        cases x with
        | lst xs =>
          replace h : (ixN xs.length k).map (fun j => (n, Cell.lst (xs.set j d))) = some p := h
          cases e : ixN xs.length k with
          | none =>
            rw [e] at h
            cases h
          | some j =>
            rw [e] at h
            cases h
            exact ⟨n, k, xs, j, rfl, rfl, hc, e, rfl⟩
        | _ => cases h
    | _ => cases h
  | _ => cases h
variable {o i e t a b : Expr} {es : List Expr} {m m' : MS} {ma mo mi : M D} {ms : M (List D)} {tA : M Bool} {pos : Pos}
theorem mg_sub (ho : PE X o (T X.K mg W mo)) (hi : PE X i (T X.K mg W mi))
    (ha : ∀ v, assign (.Subscript o i pos) X.env v = (do
      let ov ← holding [v] (eval o X.env)
      let iv ← holding [v, ov] (eval i X.env)
      standAt pos
      holding [v, ov, iv] (setItem ov iv v)
      release [v, ov, iv] []) := by intro _; rfl) : PG X (.Subscript o i pos) (TGt X.K mg (subG mo mi)) := by
  have hp := pg_sub ho hi (set_list (X := X)) ha
  refine ⟨fun pins s σ H v u Q I r q => hp.run pins s σ H v u Q I r ?_⟩
  obtain ⟨c, d, rfl, rfl, rc, hv, p⟩ := q
  -- as a statement's end that only goes on
  have p' : PostS X.K mg W { nx := Q, rt := fun _ _ => False } c (subG mo mi d c.s) := by
    cases e : subG mo mi d c.s with
    | next s =>
      rw [e] at p
      exact p
    | _ =>
      rw [e] at p
      exact p.elim
  refine ⟨c, rfl, rfl, rc, (PostS.bind (m := mo) p').mono fun x c1 e1 r1 x1 p1 w hw => ?_⟩
  refine ⟨c1, e1, rfl, r1, (PostS.bind (m := mi) p1).mono fun y c2 e2 r2 x2 p2 z hz => ?_⟩
  have hw2 := x2.repV hw
  have hv2 := x2.repV (x1.repV hv)
  cases e : putIx c2.s.st x y d with
  | none =>
    rw [e] at p2
    exact p2.elim
  | some q =>
    rw [e] at p2
    obtain ⟨n, k, xs, j, rfl, rfl, h1, h2, rfl⟩ := putIx_cases e
    obtain ⟨a, rfl, ha⟩ := hw2
    obtain rfl : z = .int k := hz
    obtain ⟨hF, vs, hH, l⟩ := r2.rc.cell n a _ ha h1
    refine ⟨a, vs, k, j, rfl, rfl, hH, by rw [← RepL.length l]; exact h2, ?_⟩
    have q := p2 (c2.cset n a (.lst (xs.set j d)) (.lst (vs.set j v))) rfl (r2.cset ha hF (cset_lst hF (l.set hv2))) (Ext.cset ha)
    have e3 : (c2.cset n a (.lst (xs.set j d)) (.lst (vs.set j v))).σ = c.σ := e2.trans e1
    rw [e3] at q
    exact q
def onN (g : D → MS) : D → MS := fun d s => match g d s with
  | .next s' => .next s'
  | _ => .bad
theorem ms_asg {tg : Expr} {g : D → MS} (he : PE X e (T K mg W ma)) (hg : PG X tg (TGt K mg g)) (hs : swapsWithSole [tg] e pos.line X.env = pure false := by rfl) (hw : swappedStores [tg] e X.env = pure none := by rfl)
    (h1 : (assignEach [tg] X.env).map (·.2) = [assign tg X.env] := by rfl) : PS X (.Assign [tg] e pos) (TSt K mg W (setS ma (onN g))) := by
  refine PS.imp (ps_asg he hg hs hw h1) fun D0 σ H h => ?_
  obtain ⟨c, rfl, rfl, rc, p⟩ := h
  refine ⟨c, rfl, rfl, rc, (PostS.bind (m := ma) p).mono fun x c1 e1 r1 x1 p1 v hv => ?_⟩
  refine ⟨c1, x, e1, rfl, r1, hv, ?_⟩
  unfold onN at p1
  cases e : g x c1.s with
  | next s =>
    rw [e] at p1
    exact p1
  | _ =>
    rw [e] at p1
    exact p1.elim

/-! ### x, y = e, f -/
def parS (i j : Nat) (ms : M (List D)) : MS := bindS ms fun vs s => match vs with
  | [d, d'] => .next { s with sl := (s.sl.set i (some (.val d))).set j (some (.val d')) }
  | _ => .bad
theorem ms_par {i j : Nat} {x y : Str} {px py pt : Pos} {kt k2 pt2} (hc : X.calm = true) (hN : X.N.Nodup) (hi : X.N[i]? = some x) (hj : X.N[j]? = some y) (hij : i ≠ j)
    (hx : X.env.scope.names.lookup x = some .local) (hy : X.env.scope.names.lookup y = some .local) (ha : PA X [a, b] (TL K mg W ms))
    (hw : swappedStores [.Tuple [.Name x px, .Name y py] kt pt] (.Tuple [a, b] k2 pt2) X.env = pure (some [x, y]))
    (hs : swapsWithSole [.Tuple [.Name x px, .Name y py] kt pt] (.Tuple [a, b] k2 pt2) pos.line X.env = pure false := by rfl) :
    PS X (.Assign [.Tuple [.Name x px, .Name y py] kt pt] (.Tuple [a, b] k2 pt2) pos) (TSt K mg W (parS i j ms)) := by
  refine PS.imp (ps_par hc hN hi hj hij hx hy ha hw hs) fun D0 σ H h => ?_
  obtain ⟨c, rfl, rfl, rc, p⟩ := h
  refine ⟨c, rfl, rfl, rc, (PostS.bind (m := ms) p).mono fun x c1 e1 r1 x1 p1 v hv => ?_⟩
  match x, p1, hv with
  | [d, d'], p1, hv =>
    obtain ⟨v1, w1, rfl, h1, v2, w2, rfl, h2, h3⟩ := hv
    obtain rfl : w2 = [] := h3
    refine ⟨v1, v2, rfl, ?_⟩
    have q := p1 ((c1.put i d v1).put j d' v2) rfl ((r1.put h1).put h2) (Ext.put.trans Ext.put)
    rw [← e1]
    exact q
  | [], p1, hv => exact p1.elim
  | [_], p1, hv => exact p1.elim
  | _ :: _ :: _ :: _, p1, hv => exact p1.elim

/-! ### targets that are tuples -/
def unpackS : List (D → MS) → List D → MS
  | [], [], s => .next s
  | g :: gs, d :: ds, s => match g d s with
    | .next s' => unpackS gs ds s'
    | _ => .bad
  | _, _, _ => .bad
def TGs' (K : PySem.W.Frag) (mg : Str → Option Value) (gs : List (D → MS)) : TGs := fun vs σ H Q => ∃ (c : Cfg) (ds : List D), c.σ = σ ∧ c.h.H = H ∧ Rep K mg c ∧ RepL K mg c.h.ι c.h.F ds vs ∧ match unpackS gs ds c.s with
  | .next s => ∀ c' : Cfg, c'.s = s → Rep K mg c' → Ext c c' → Q c'.σ c'.h.H
  | _ => False
theorem PGs.imp {X : Cx} {e : List Expr} {t t' : TGs} (h : PGs X e t) (k : ∀ v σ H Q, t' v σ H Q → t v σ H Q) : PGs X e t' := ⟨fun pins s σ H vs us Q I r q => h.run pins s σ H vs us Q I r (k vs σ H Q q)⟩
theorem PG.imp {X : Cx} {e : Expr} {t t' : TG} (h : PG X e t) (k : ∀ v σ H Q, t' v σ H Q → t v σ H Q) : PG X e t' := ⟨fun pins s σ H vs us Q I r q => h.run pins s σ H vs us Q I r (k vs σ H Q q)⟩
theorem mgs_nil : PGs X [] (TGs' K mg []) := by
  refine PGs.imp pgs_nil fun v σ H Q h => ?_
  obtain ⟨c, ds, rfl, rfl, rc, hv, p⟩ := h
  cases ds with
  | nil =>
    obtain rfl : v = [] := hv
    exact ⟨rfl, p c rfl rc Ext0.refl⟩
  | cons d ds => exact p.elim
theorem mgs_cons {g : D → MS} {gs : List (D → MS)} (h1 : PG X e (TGt K mg g)) (h2 : PGs X es (TGs' K mg gs))
    (hs : (assignEach (e :: es) X.env).map (·.2) = assign e X.env :: (assignEach es X.env).map (·.2) := by rfl) : PGs X (e :: es) (TGs' K mg (g :: gs)) := by
  refine PGs.imp (pgs_cons h1 h2 hs) fun v σ H Q h => ?_
  obtain ⟨c, ds, rfl, rfl, rc, hv, p⟩ := h
  cases ds with
  | nil => exact p.elim
  | cons d ds =>
    obtain ⟨v1, r, rfl, hd, hr⟩ := hv
    refine ⟨v1, r, rfl, c, d, rfl, rfl, rc, hd, ?_⟩
    simp only [unpackS] at p
    cases e : g d c.s with
    | next s =>
      rw [e] at p
      refine fun c' e1 r1 x1 => ⟨c', ds, rfl, rfl, r1, x1.repL hr, ?_⟩
      rw [e1]
      cases e2 : unpackS gs ds s with
      | next s2 =>
        replace p : (match unpackS gs ds s with
          | .next s => ∀ c' : Cfg, c'.s = s → Rep K mg c' → Ext c c' → Q c'.σ c'.h.H
          | _ => False) := p
        rw [e2] at p
        exact fun c2 e3 r2 x2 => p c2 e3 r2 (x1.trans x2)
      | _ =>
        replace p : (match unpackS gs ds s with
          | .next s => ∀ c' : Cfg, c'.s = s → Rep K mg c' → Ext c c' → Q c'.σ c'.h.H
          | _ => False) := p
        rw [e2] at p
        exact p.elim
    | _ =>
      rw [e] at p
      exact p.elim
def tupG (gs : List (D → MS)) : D → MS := fun d => match d with
  | .tup ds => fun s => match decide (ds.length = gs.length) with
    | true => unpackS gs ds s
    | false => .bad
  | _ => badS
theorem mg_tup {gs : List (D → MS)} {k : Nat} (hc : X.calm = true) (h : PGs X es (TGs' X.K mg gs))
    (hn : (assignEach es X.env).length = gs.length := by rfl) (hst : (assignEach es X.env).findIdx? (·.1) = none := by rfl) : PG X (.Tuple es k pos) (TGt X.K mg (tupG gs)) := by
  refine PG.imp (pg_tup (n := gs.length) hc h hn hst) fun v σ H Q h => ?_
  obtain ⟨c, d, rfl, rfl, rc, hv, p⟩ := h
  cases d with
  | tup ds =>
    obtain ⟨a, vs, rfl, q, l⟩ := hv
    simp only [tupG] at p
    by_cases hl : ds.length = gs.length
    · rw [decide_eq_true hl] at p
      exact ⟨a, vs, rfl, sqT_mono rc.rc.fr q, by rw [← RepL.length l]; exact hl, c, ds, rfl, rfl, rc, l, p⟩
    · rw [decide_eq_false hl] at p
      exact p.elim
  | _ => exact p.elim
end
end Mir
/-! M5: what is walked; for; comprehensions. -/
namespace Mir
open PySem PySem.Spec PyProof.Rows L2
section
variable (K : PySem.W.Frag) (mg : Str → Option Value) (W : WX)
structure ItOk (J : It) (c : Cfg) (items : List D) : Prop where
  go : ∀ (c' : Cfg) (i : Nat), Rep K mg c' → Ext c c' → i < items.length → J.go i c'.h.H
  stop : ∀ (c' : Cfg), Rep K mg c' → Ext c c' → J.stop items.length c'.h.H
  yld : ∀ (c' : Cfg) (i : Nat) (x : V) (H' : Hp) (d : D), Rep K mg c' → Ext c c' → items[i]? = some d → J.yld i c'.h.H x H' → ∃ c2 : Cfg, c2.h.H = H' ∧ c2.σ = c'.σ ∧ c2.s = c'.s ∧ Rep K mg c2 ∧ Ext c' c2 ∧ RepV K mg c2.h.ι c2.h.F d x
def TIm (m : M (List D)) : TI := fun σ H R => ∃ c : Cfg, c.σ = σ ∧ c.h.H = H ∧ Rep K mg c ∧ Post K mg W c (fun items c' => ∀ J, ItOk K mg J c' items → R J c'.h.H) (m c.s)
end
theorem PI.imp {X : Cx} {tg iter : Expr} {t t' : TI} (h : PI X tg iter t) (k : ∀ σ H R, t' σ H R → t σ H R) : PI X tg iter t' := ⟨fun pins s σ H R I q => h.run pins s σ H R I (k σ H R q)⟩
/-- the items of a frozen list -/
def itemsM (m : M D) : M (List D) := bindM m fun x s => match x with
  | .lst xs => .ok xs s
  | _ => .bad
def itemsTM (m : M D) : M (List D) := bindM m fun x s => match x with
  | .tup xs => .ok xs s
  | _ => .bad
def rngL (lo : Int) (n : Nat) : List D := (List.range n).map fun i => .int (lo + (i : Nat))
def in62 (j : Int) : Bool := decide (-(2 ^ 62) ≤ j) && decide (j < 2 ^ 62)
def rng1M (ms : M (List D)) : M (List D) := bindM ms fun vs s => match vs with
  | [.int j] => (match in62 j with
    | true => .ok (rngL 0 j.toNat) s
    | false => .bad)
  | _ => .bad
def rng2O : List D → Option (Int × Int)
  | [.int i, .int j] => if in62 i && in62 j then some (i, j) else none
  | _ => none
def rng2M (ms : M (List D)) : M (List D) := bindM ms fun vs s => match rng2O vs with
  | some q => .ok (rngL q.1 (q.2 - q.1).toNat) s
  | none => .bad
section
variable {K : PySem.W.Frag} {mg : Str → Option Value} {W : WX} {X : Cx} {c c1 : Cfg} {D0 D1 : Ends} {α : Type}
variable {tg e a b : Expr} {es : List Expr} {m m' : MS} {ma : M D} {ms : M (List D)} {mi : M (List D)} {pos p : Pos}
theorem rngL_get {lo : Int} {n i : Nat} {d : D} (h : (rngL lo n)[i]? = some d) : d = .int (lo + (i : Nat)) := by
  unfold rngL at h
  rw [List.getElem?_map] at h
  by_cases hi : i < n
  · rw [List.getElem?_range hi] at h
    cases h
    rfl
  · rw [List.getElem?_eq_none (by simpa using hi)] at h
    cases h
theorem rngL_len (lo : Int) (n : Nat) : (rngL lo n).length = n := by simp [rngL]
theorem itok_list {a : Addr} {ds : List D} {vs : List V} (hq : SqL K c.h.F a vs) (l : RepL K mg c.h.ι c.h.F ds vs) : ItOk K mg (Itl K a) c ds := by
  have hL : ∀ (c' : Cfg), Rep K mg c' → Ext c c' → SqL K c'.h.H a vs := fun c' r x => sqL_mono r.rc.fr (sqL_mono x.fz hq)
  refine ⟨fun c' i r x h => ?_, fun c' r x => ⟨vs, hL c' r x, by rw [RepL.length l]; exact Nat.le_refl _⟩, fun c' i v H' d r x h y => ?_⟩
  · obtain ⟨v, h1, _⟩ := RepL.get l (List.getElem?_eq_getElem h)
    exact ⟨vs, v, hL c' r x, h1⟩
  · obtain ⟨rfl, y⟩ := y
    obtain ⟨w, h1, h2⟩ := RepL.get l h
    have h3 := y vs (hL c' r x)
    rw [h1] at h3
    cases h3
    exact ⟨c', rfl, rfl, rfl, r, Ext0.refl, x.repV h2⟩
theorem itok_tup {a : Addr} {ds : List D} {vs : List V} (hq : SqT K c.h.F a vs) (l : RepL K mg c.h.ι c.h.F ds vs) : ItOk K mg (Itt K a) c ds := by
  have hL : ∀ (c' : Cfg), Rep K mg c' → Ext c c' → SqT K c'.h.H a vs := fun c' r x => sqT_mono r.rc.fr (sqT_mono x.fz hq)
  refine ⟨fun c' i r x h => ?_, fun c' r x => ⟨vs, hL c' r x, by rw [RepL.length l]; exact Nat.le_refl _⟩, fun c' i v H' d r x h y => ?_⟩
  · obtain ⟨v, h1, _⟩ := RepL.get l (List.getElem?_eq_getElem h)
    exact ⟨vs, v, hL c' r x, h1⟩
  · obtain ⟨rfl, y⟩ := y
    obtain ⟨w, h1, h2⟩ := RepL.get l h
    have h3 := y vs (hL c' r x)
    rw [h1] at h3
    cases h3
    exact ⟨c', rfl, rfl, rfl, r, Ext0.refl, x.repV h2⟩
theorem itok_rng {lo : Int} {n : Nat} : ItOk K mg (Itr lo n) c (rngL lo n) := by
  refine ⟨fun c' i r x h => by rw [rngL_len] at h; exact h, fun c' r x => by rw [rngL_len]; exact Nat.le_refl n, fun c' i v H' d r x h y => ?_⟩
  obtain ⟨rfl, rfl⟩ := y
  rw [rngL_get h]
  exact ⟨c', rfl, rfl, rfl, r, Ext0.refl, rfl⟩
theorem mi_list (h : PE X e (T X.K mg W ma)) : PI X tg e (TIm X.K mg W (itemsM ma)) := by
  refine PI.imp (pi_list h) fun σ H R h => ?_
  obtain ⟨c, rfl, rfl, rc, p⟩ := h
  refine ⟨c, rfl, rfl, rc, (Post.bind (m := ma c.s) p).mono fun x c1 e1 r1 x1 p1 v hv => ?_⟩
  cases x with
  | lst xs =>
    obtain ⟨a, vs, rfl, q, l⟩ := hv
    exact ⟨a, rfl, ⟨vs, sqL_mono r1.rc.fr q⟩, p1.now r1 _ (itok_list q l)⟩
  | _ => exact p1.elim
theorem mi_tup (h : PE X e (T X.K mg W ma)) : PI X tg e (TIm X.K mg W (itemsTM ma)) := by
  refine PI.imp (pi_tup h) fun σ H R h => ?_
  obtain ⟨c, rfl, rfl, rc, p⟩ := h
  refine ⟨c, rfl, rfl, rc, (Post.bind (m := ma c.s) p).mono fun x c1 e1 r1 x1 p1 v hv => ?_⟩
  cases x with
  | tup xs =>
    obtain ⟨a, vs, rfl, q, l⟩ := hv
    exact ⟨a, rfl, ⟨vs, sqT_mono r1.rc.fr q⟩, p1.now r1 _ (itok_tup q l)⟩
  | _ => exact p1.elim
theorem in62_of {j : Int} (h : in62 j = true) : -(2 ^ 62) ≤ j ∧ j < 2 ^ 62 := by
  unfold in62 at h
  rw [Bool.and_eq_true, decide_eq_true_eq, decide_eq_true_eq] at h
  exact h
theorem mi_rng1 (hg : Gl X "range") (hm : X.mg "range" = none) (ha : PA X [a] (TL K mg W ms)) (hs : starEach [a] X.env = [(false, eval a X.env)] := by rfl) : PI X tg (.Call (.Name "range" p) [a] [] pos) (TIm K mg W (rng1M ms)) := by
  refine PI.imp (pi_range1 hg hm ha hs) fun σ H R h => ?_
  obtain ⟨c, rfl, rfl, rc, q⟩ := h
  refine ⟨c, rfl, rfl, rc, (Post.bind (m := ms c.s) q).mono fun x c1 e1 r1 x1 q1 v hv => ?_⟩
  match x, q1, hv with
  | [.int j], q1, hv =>
    obtain ⟨v1, w1, rfl, h1, h2⟩ := hv
    obtain rfl : w1 = [] := h2
    obtain rfl : v1 = .int j := h1
    replace q1 : Post K mg W c1 (fun items c' => ∀ J, ItOk K mg J c' items → R J c'.h.H) (match in62 j with
        | true => .ok (rngL 0 j.toNat) c1.s
        | false => .bad) := q1
    cases hb : in62 j with
    | true =>
      rw [hb] at q1
      exact ⟨j, rfl, (in62_of hb).1, (in62_of hb).2, q1.now r1 _ itok_rng⟩
    | false =>
      rw [hb] at q1
      exact q1.elim
  | [], q1, hv => exact q1.elim
  | .int _ :: _ :: _, q1, hv => exact q1.elim
  | .non :: _, q1, hv => exact q1.elim
  | .bl _ :: _, q1, hv => exact q1.elim
  | .str _ :: _, q1, hv => exact q1.elim
  | .lst _ :: _, q1, hv => exact q1.elim
  | .tup _ :: _, q1, hv => exact q1.elim
  | .ref _ :: _, q1, hv => exact q1.elim
theorem rng2O_cases {vs : List D} {q : Int × Int} (h : rng2O vs = some q) : vs = [.int q.1, .int q.2] ∧ in62 q.1 = true ∧ in62 q.2 = true := by
  unfold rng2O at h
  split at h
  · rename_i i j
    by_cases hb : (in62 i && in62 j) = true
    · rw [if_pos hb] at h
      cases h
      rw [Bool.and_eq_true] at hb
      exact ⟨rfl, hb.1, hb.2⟩
    · rw [if_neg hb] at h
      cases h
  · cases h
theorem mi_rng2 (hg : Gl X "range") (hm : X.mg "range" = none) (ha : PA X [a, b] (TL K mg W ms)) (hs : starEach [a, b] X.env = [(false, eval a X.env), (false, eval b X.env)] := by rfl) (hs2 : starEach [b] X.env = [(false, eval b X.env)] := by rfl) :
    PI X tg (.Call (.Name "range" p) [a, b] [] pos) (TIm K mg W (rng2M ms)) := by
  refine PI.imp (pi_range2 hg hm ha hs hs2) fun σ H R h => ?_
  obtain ⟨c, rfl, rfl, rc, q⟩ := h
  refine ⟨c, rfl, rfl, rc, (Post.bind (m := ms c.s) q).mono fun x c1 e1 r1 x1 q1 v hv => ?_⟩
  cases hr : rng2O x with
  | none =>
    rw [hr] at q1
    exact q1.elim
  | some y =>
    rw [hr] at q1
    obtain ⟨rfl, h1, h2⟩ := rng2O_cases hr
    obtain ⟨v1, w1, rfl, h3, v2, w2, rfl, h4, h5⟩ := hv
    obtain rfl : w2 = [] := h5
    obtain rfl : v1 = .int y.1 := h3
    obtain rfl : v2 = .int y.2 := h4
    exact ⟨y.1, y.2, rfl, ⟨(in62_of h1).1, (in62_of h1).2, (in62_of h2).1, (in62_of h2).2⟩, q1.now r1 _ itok_rng⟩

/-! ### for -/
def loopS (g : D → MS) (body : MS) : List D → MS
  | [], s => .next s
  | d :: ds, s => match g d s with
    | .next s1 => (match body s1 with
      | .next s2 => loopS g body ds s2
      | .cont s2 => loopS g body ds s2
      | .brk s2 => .next s2
      | r => r)
    | _ => .bad
def forS (mi : M (List D)) (g : D → MS) (body : MS) : MS := bindS mi fun items => loopS g body items
theorem ms_for {body : List Stmt} {g : D → MS} (hp : PassesOwn (model X.prog X.w) X.A X.env X.xe) (hc : X.calm = true) (hi : PI X tg e (TIm K mg W mi)) (hg : PG X tg (TGt K mg g)) (hb : PSs X body (TSt K mg W m))
    (hs : ∀ x, foldedSetIterable e X.env x = pure x := by intro _; rfl) : PS X (.For tg e body [] pos) (TSt K mg W (forS mi g m)) := by
  refine PS.imp (ps_for hp hc hi hg hb hs) fun D0 σ H h => ?_
  obtain ⟨c, rfl, rfl, rc, q⟩ := h
  refine ⟨c, rfl, rfl, rc, (PostS.bind (m := mi) q).mono fun items c1 e1 r1 x1 q1 J hJ => ?_⟩
  refine ⟨fun i n σ H => ∃ c2 : Cfg, c2.σ = σ ∧ c2.h.H = H ∧ Rep K mg c2 ∧ Ext c1 c2 ∧ i + n = items.length ∧ PostS K mg W D0 c2 (loopS g m (items.drop i) c2.s), ⟨items.length, c1, e1, rfl, r1, Ext0.refl, by omega, by simpa using q1⟩, fun i n σ2 H2 hw => ?_⟩
  obtain ⟨c2, rfl, rfl, r2, x2, hn, q2⟩ := hw
  by_cases hlt : i < items.length
  · refine .inr ⟨hJ.go c2 i r2 x2 hlt, fun σ' H' => ∃ c3 : Cfg, c3.σ = σ' ∧ c3.h.H = H' ∧ Rep K mg c3 ∧ Ext c1 c3 ∧ PostS K mg W D0 c3 (loopS g m (items.drop (i + 1)) c3.s), fun σ' H' hN => ?_, fun x H' hy => ?_⟩
    · obtain ⟨c3, e3, e4, r3, x3, q3⟩ := hN
      exact ⟨n - 1, by omega, c3, e3, e4, r3, x3, by omega, q3⟩
    · have hget : items[i]? = some items[i] := List.getElem?_eq_getElem hlt
      obtain ⟨c3, rfl, e3, e4, r3, x3, hv⟩ := hJ.yld c2 i x H' _ r2 x2 hget hy
      have hd : items.drop i = items[i] :: items.drop (i + 1) := List.drop_eq_getElem_cons hlt
      rw [hd] at q2
      have q3 := PostS.shift q2 x3
      rw [← e4] at q3
      refine ⟨c3, items[i], e3, rfl, r3, hv, ?_⟩
      simp only [loopS] at q3
      cases eg : g items[i] c3.s with
      | next s1 =>
        rw [eg] at q3
        refine fun c4 e5 r4 x4 => ⟨c4, rfl, rfl, r4, ?_⟩
        have q4 := PostS.shift q3 x4
        rw [← e5] at q4
        simp only at q4
        have x14 : Ext c1 c4 := (x2.trans x3).trans x4
        cases eb : m c4.s with
        | next s2 =>
          rw [eb] at q4
          intro c5 e6 r5 x5
          refine ⟨c5, rfl, rfl, r5, x14.trans x5, ?_⟩
          rw [e6]
          exact PostS.shift q4 x5
        | cont s2 =>
          rw [eb] at q4
          intro c5 e6 r5 x5
          refine ⟨c5, rfl, rfl, r5, x14.trans x5, ?_⟩
          rw [e6]
          exact PostS.shift q4 x5
        | brk s2 =>
          rw [eb] at q4
          exact q4
        | ret d s2 =>
          rw [eb] at q4
          exact q4
        | exc z s2 =>
          rw [eb] at q4
          exact q4
        | bad =>
          rw [eb] at q4
          exact q4
      | _ =>
        rw [eg] at q3
        exact q3.elim
  · have hi : i = items.length := by omega
    subst hi
    refine .inl ⟨hJ.stop c2 r2 x2, ?_⟩
    rw [List.drop_length] at q2
    exact q2 c2 rfl r2 Ext0.refl
end
end Mir
/-! M6: list comprehensions. -/
namespace Mir
open PySem PySem.Spec PyProof.Rows L2

def wipeG {α : Type} (l : List (Option α)) : List Nat → List (Option α)
  | [] => l
  | v :: vs => (wipeG l vs).set v none
def restG {α : Type} (old new : List (Option α)) : List Nat → List (Option α)
  | [] => new
  | v :: vs => (restG old new vs).set v ((old[v]?).getD none)
theorem wipe_eq (σ : L2.St) : ∀ vs, wipe σ vs = wipeG σ vs
  | [] => rfl
  | v :: vs => by
    show (wipe σ vs).set v none = (wipeG σ vs).set v none
    rw [wipe_eq σ vs]
theorem wipeG_len {α : Type} (l : List (Option α)) : ∀ vs, (wipeG l vs).length = l.length
  | [] => rfl
  | v :: vs => by
    show ((wipeG l vs).set v none).length = l.length
    rw [List.length_set, wipeG_len l vs]
theorem restG_len {α : Type} (old new : List (Option α)) : ∀ vs, (restG old new vs).length = new.length
  | [] => rfl
  | v :: vs => by
    show ((restG old new vs).set v _).length = new.length
    rw [List.length_set, restG_len old new vs]
theorem wipeG_in {α : Type} {l : List (Option α)} {i : Nat} {x : α} : ∀ {vs : List Nat}, (wipeG l vs)[i]? = some (some x) → i ∉ vs ∧ l[i]? = some (some x)
  | [], h => ⟨by simp, h⟩
  | v :: vs, h => by
    replace h : ((wipeG l vs).set v none)[i]? = some (some x) := h
    by_cases e : v = i
    · subst e
      by_cases hl : v < (wipeG l vs).length
      · rw [List.getElem?_set_self hl] at h
        cases h
      · rw [List.getElem?_eq_none (by simpa using hl)] at h
        cases h
    · rw [List.getElem?_set_ne e] at h
      obtain ⟨h1, h2⟩ := wipeG_in h
      exact ⟨by simp only [List.mem_cons, not_or]; exact ⟨fun z => e z.symm, h1⟩, h2⟩
theorem wipeG_out {α : Type} {l : List (Option α)} {i : Nat} : ∀ {vs : List Nat}, i ∉ vs → (wipeG l vs)[i]? = l[i]?
  | [], _ => rfl
  | v :: vs, h => by
    simp only [List.mem_cons, not_or] at h
    show ((wipeG l vs).set v none)[i]? = l[i]?
    rw [List.getElem?_set_ne (fun z => h.1 z.symm)]
    exact wipeG_out h.2
theorem restG_out {α : Type} {old new : List (Option α)} {i : Nat} : ∀ {vs : List Nat}, i ∉ vs → (restG old new vs)[i]? = new[i]?
  | [], _ => rfl
  | v :: vs, h => by
    simp only [List.mem_cons, not_or] at h
    show ((restG old new vs).set v _)[i]? = new[i]?
    rw [List.getElem?_set_ne (fun z => h.1 z.symm)]
    exact restG_out h.2
theorem restG_in {α : Type} {old new : List (Option α)} {i : Nat} {x : α} : ∀ {vs : List Nat}, i ∈ vs → (restG old new vs)[i]? = some (some x) → old[i]? = some (some x)
  | [], h, _ => by simp at h
  | v :: vs, h, e => by
    replace e : ((restG old new vs).set v ((old[v]?).getD none))[i]? = some (some x) := e
    by_cases hv : v = i
    · subst hv
      by_cases hl : v < (restG old new vs).length
      · rw [List.getElem?_set_self hl] at e
        cases ho : old[v]? with
        | none =>
          rw [ho] at e
          cases e
        | some y =>
          rw [ho] at e
          exact e
      · rw [List.getElem?_eq_none (by simpa using hl)] at e
        cases e
    · rw [List.getElem?_set_ne hv] at e
      rcases List.mem_cons.mp h with z | z
      · exact absurd z.symm hv
      · exact restG_in z e

theorem wipeG_get {α : Type} {l : List (Option α)} {i : Nat} : ∀ (vs : List Nat), (wipeG l vs)[i]? = if i ∈ vs then (l[i]?).map (fun _ => none) else l[i]?
  | [] => by simp [wipeG]
  | v :: vs => by
    show ((wipeG l vs).set v none)[i]? = _
    have ih := wipeG_get (l := l) (i := i) vs
    by_cases e : v = i
    · subst e
      by_cases hl : v < l.length
      · rw [List.getElem?_set_self (by rw [wipeG_len]; exact hl), if_pos (List.mem_cons_self ..), List.getElem?_eq_getElem hl]
        rfl
      · rw [List.getElem?_eq_none (by rw [List.length_set, wipeG_len]; omega), if_pos (List.mem_cons_self ..), List.getElem?_eq_none (by omega)]
        rfl
    · rw [List.getElem?_set_ne e, ih]
      by_cases hm : i ∈ vs
      · rw [if_pos hm, if_pos (List.mem_cons_of_mem _ hm)]
      · rw [if_neg hm, if_neg (by simp only [List.mem_cons, not_or]; exact ⟨fun z => e z.symm, hm⟩)]
theorem wipeG_idem {α : Type} (l : List (Option α)) (vs : List Nat) : wipeG (wipeG l vs) vs = wipeG l vs := by
  refine List.ext_getElem? fun i => ?_
  rw [wipeG_get vs, wipeG_get vs]
  by_cases hm : i ∈ vs
  · rw [if_pos hm, if_pos hm]
    cases l[i]? <;> rfl
  · rw [if_neg hm, if_neg hm]
def noOwn (l : List (Option SV)) (vs : List Nat) : Bool := vs.all fun v => match l[v]? with
  | some (some (.own _)) => false
  | _ => true
def compL (vs : List Nat) (g : D → MS) (tt : M Bool) (te : M D) : List D → List D → S → Option (List D × S)
  | [], acc, s => some (acc, s)
  | d :: ds, acc, s => match g d { s with sl := wipeG s.sl vs } with
    | .next s1 => (match tt s1 with
      | .ok true s2 => (match te s2 with
        | .ok y s3 => (match decide (acc.length < sizeLine) with
          | true => compL vs g tt te ds (acc ++ [y]) s3
          | false => none)
        | _ => none)
      | .ok false s2 => compL vs g tt te ds acc s2
      | _ => none)
    | _ => none
def compM (vs : List Nat) (mi : M (List D)) (g : D → MS) (tt : M Bool) (te : M D) : M (List D) := bindM mi fun items s => match noOwn s.sl vs with
  | true => (match compL vs g tt te items [] s with
    | some r => .ok r.1 { r.2 with sl := restG s.sl r.2.sl vs }
    | none => .bad)
  | false => .bad
section
variable (K : PySem.W.Frag) (mg : Str → Option Value)
def TGw (vs : List Nat) (g : D → MS) : TG := fun v σ H Q => ∃ (c : Cfg) (d : D), c.σ = σ ∧ c.h.H = H ∧ Rep K mg c ∧ RepV K mg c.h.ι c.h.F d v ∧ match g d c.s with
  | .next s => ∀ c' : Cfg, c'.s = s → Rep K mg c' → Ext c c' → wipeG c'.σ vs = wipeG c.σ vs → Q c'.σ c'.h.H
  | _ => False
end
abbrev W0 : WX := fun _ _ _ _ => False
section
variable {K : PySem.W.Frag} {mg : Str → Option Value} {W : WX} {X : Cx} {c c1 : Cfg} {α : Type}
theorem wipeG_set {α : Type} {l : List (Option α)} {i : Nat} {x : Option α} : ∀ {vs : List Nat}, i ∈ vs → wipeG (l.set i x) vs = wipeG l vs
  | [], h => by simp at h
  | v :: vs, h => by
    show (wipeG (l.set i x) vs).set v none = (wipeG l vs).set v none
    by_cases hm : i ∈ vs
    · rw [wipeG_set hm]
    · rcases List.mem_cons.mp h with z | z
      · subst z
        have e : wipeG (l.set i x) vs = (wipeG l vs).set i x := by
          clear h
          induction vs with
          | nil => rfl
          | cons u us ih =>
            simp only [List.mem_cons, not_or] at hm
            show (wipeG (l.set i x) us).set u none = ((wipeG l us).set u none).set i x
            rw [ih hm.2, List.set_comm _ _ hm.1]
        rw [e, List.set_set]
      · exact absurd z hm
def Cfg.wiped (c : Cfg) (vs : List Nat) : Cfg := { c with sl := wipeG c.sl vs, σ := wipeG c.σ vs }
theorem Rep.wiped {vs : List Nat} (r : Rep K mg c) : Rep K mg (c.wiped vs) := by
  refine ⟨r.rc, ?_, fun i d e => ?_, fun i x e => ?_, fun i j x y a e1 e2 e3 e4 => ?_⟩
  · show (wipeG c.sl vs).length = (wipeG c.σ vs).length
    rw [wipeG_len, wipeG_len]
    exact r.sln
  · obtain ⟨h1, h2⟩ := wipeG_in e
    obtain ⟨v, h3, h4⟩ := r.val i d h2
    exact ⟨v, (wipeG_out h1).trans h3, h4⟩
  · obtain ⟨h1, h2⟩ := wipeG_in e
    obtain ⟨a, h3, h4⟩ := r.own i x h2
    exact ⟨a, (wipeG_out h1).trans h3, h4⟩
  · exact r.dis i j x y a (wipeG_in e1).2 (wipeG_in e2).2 (wipeG_in e3).2 (wipeG_in e4).2
theorem Ext.wiped {vs : List Nat} : Ext c (c.wiped vs) := ⟨⟨[], by simp [Cfg.wiped]⟩, fun _ _ h => h, fun _ _ h _ => h, fun _ h => h, fun _ _ h => .inl h, fun a h => .inl (by
  rcases h with h | ⟨i, x, e1, e2⟩
  · exact .inl h
  · exact .inr ⟨i, x, (wipeG_in e1).2, (wipeG_in e2).2⟩)⟩
/-- an address that is held aside: tracked, not frozen, nobody's -/
structure Fl (c : Cfg) (p : Addr) (vs : List V) : Prop where
  H : c.h.H p = some (.lst vs)
  F : c.h.F p = none
  M : ¬ Mu c p
theorem Fl.ext {p : Addr} {vs : List V} (f : Fl c p vs) (x : Ext c c1) : Fl c1 p vs := by
  have hne : c.h.H p ≠ none := by
    rw [f.H]
    exact fun z => nomatch z
  refine ⟨x.fr p _ f.H f.M, ?_, fun h => ?_⟩
  · cases q : c1.h.F p with
    | none => rfl
    | some o =>
      rcases x.nf p o q with z | z | z
      · rw [f.F] at z
        cases z
      · exact absurd z hne
      · exact absurd z f.M
  · rcases x.ow p h with z | z
    · exact f.M z
    · exact hne z
def Cfg.fl (c : Cfg) (p : Addr) (o : HO) : Cfg := { c with h := { c.h with H := upd c.h.H p o } }
theorem Rep.fl {p : Addr} {o : HO} (r : Rep K mg c) (hF : c.h.F p = none) (hM : ¬ Mu c p) : Rep K mg (c.fl p o) := by
  have away : ∀ {a : Addr} {x : Cell}, a ≠ p → CellAt K mg c.h a x → CellAt K mg (c.fl p o).h a x := fun {a x} ha q => by
    have e : (upd c.h.H p o) a = c.h.H a := upd_ne ha
    cases x with
    | lst ds =>
      obtain ⟨z, vs, e2, l⟩ := q
      exact ⟨z, vs, e.trans e2, l⟩
    | dct ds =>
      obtain ⟨z, vs, e2, l⟩ := q
      exact ⟨z, vs, e.trans e2, l⟩
    | ins C fs =>
      obtain ⟨z, ca, dx, vs, g, e2, l⟩ := q
      exact ⟨z, ca, dx, vs, g, e.trans e2, l⟩
    | dead => exact True.intro
  refine ⟨⟨fun a u e => ?_, r.rc.nd, r.rc.len, fun n a x e1 e2 => away (fun z => hM (.inl (by rw [← z]; exact List.mem_of_getElem? e1))) (r.rc.cell n a x e1 e2), fun b h => upd_there (r.rc.tr b h)⟩, r.sln, r.val, fun i x e => ?_, r.dis⟩
  · have ha : a ≠ p := fun z => by
      have e' : c.h.F a = some u := e
      rw [z, hF] at e'
      cases e'
    show (upd c.h.H p o) a = some u
    rw [upd_ne ha]
    exact r.rc.fr a u e
  · obtain ⟨a, h1, h2, h3, h4, h5⟩ := r.own i x e
    have ha : a ≠ p := fun z => hM (.inr ⟨i, x, e, by rw [← z]; exact h1⟩)
    exact ⟨a, h1, h2, h3, by show (upd c.h.H p o) a ≠ none; rw [upd_ne ha]; exact h4, away ha h5⟩
theorem Ext.fl {p : Addr} {o : HO} {c0 : Cfg} (x : Ext c0 c) (h0 : c0.h.H p = none) : Ext c0 (c.fl p o) := by
  refine ⟨x.pre, x.fz, fun a u e m => ?_, fun a e => ?_, x.nf, x.ow⟩
  · show (upd c.h.H p o) a = some u
    rw [upd_ne (ne_of_none e h0)]
    exact x.fr a u e m
  · by_cases ha : a = p
    · rw [ha]
      exact h0
    · have e' : (upd c.h.H p o) a = none := e
      rw [upd_ne ha] at e'
      exact x.dom a e'
theorem Fl.fl {p : Addr} {vs ws : List V} (f : Fl c p vs) : Fl (c.fl p (.lst ws)) p ws := ⟨upd_same, f.F, f.M⟩
/-- what was held aside becomes frozen -/
def Cfg.still (c : Cfg) (p : Addr) (o : HO) : Cfg := { c with h := { c.h with F := upd c.h.F p o } }
theorem Rep.still {p : Addr} {vs : List V} (r : Rep K mg c) (f : Fl c p vs) : Rep K mg (c.still p (.lst vs)) := by
  have hι : (c.still p (.lst vs)).h.ι = c.h.ι ++ [] := by simp [Cfg.still]
  refine ⟨⟨fun a u e => ?_, r.rc.nd, r.rc.len, fun n a x e1 e2 => ?_, r.rc.tr⟩, r.sln, fun i d e => ?_, fun i x e => ?_, r.dis⟩
  · by_cases ha : a = p
    · subst ha
      have e' : (upd c.h.F a (.lst vs)) a = some u := e
      rw [upd_same] at e'
      cases e'
      exact f.H
    · have e' : (upd c.h.F p (.lst vs)) a = some u := e
      rw [upd_ne ha] at e'
      exact r.rc.fr a u e'
  · have ha : a ≠ p := fun z => f.M (.inl (by rw [← z]; exact List.mem_of_getElem? e1))
    exact (r.rc.cell n a x e1 e2).mono hι (upd_fr f.F) (fun z => by show (upd c.h.F p _) a = none; rw [upd_ne ha]; exact z) fun u z => z
  · obtain ⟨v, h1, h2⟩ := r.val i d e
    exact ⟨v, h1, by rw [hι]; exact RepV.mono (upd_fr f.F) d v h2⟩
  · obtain ⟨a, h1, h2, h3, h4, h5⟩ := r.own i x e
    have ha : a ≠ p := fun z => f.M (.inr ⟨i, x, e, by rw [← z]; exact h1⟩)
    refine ⟨a, h1, h2, by show (upd c.h.F p _) a = none; rw [upd_ne ha]; exact h3, h4, ?_⟩
    exact h5.mono hι (upd_fr f.F) (fun z => by show (upd c.h.F p _) a = none; rw [upd_ne ha]; exact z) fun u z => z
theorem Ext.still {p : Addr} {o : HO} {c0 : Cfg} (x : Ext c0 c) (h0 : c0.h.H p = none) (hF : c.h.F p = none) : Ext c0 (c.still p o) := by
  refine ⟨x.pre, fun a u e => ?_, x.fr, x.dom, fun a u e => ?_, x.ow⟩
  · show (upd c.h.F p o) a = some u
    exact upd_fr hF a u (x.fz a u e)
  · by_cases ha : a = p
    · rw [ha]
      exact .inr (.inl h0)
    · have e' : (upd c.h.F p o) a = some u := e
      rw [upd_ne ha] at e'
      exact x.nf a u e'
theorem still_lst {p : Addr} {ds : List D} {vs : List V} (hF : c.h.F p = none) (l : RepL K mg c.h.ι c.h.F ds vs) : RepV K mg (c.still p (.lst vs)).h.ι (c.still p (.lst vs)).h.F (.lst ds) (.ref p) := by
  refine ⟨p, vs, rfl, .inl (.inl upd_same), ?_⟩
  have q := RepL.mono (r := []) (upd_fr (o := .lst vs) hF) ds vs l
  simpa [Cfg.still] using q
/-- the block is left: its names are as they were -/
def Cfg.left (c old : Cfg) (vs : List Nat) (sl : List (Option SV)) : Cfg := { c with sl := restG old.sl sl vs, σ := old.σ }
theorem Rep.left {old : Cfg} {vs : List Nat} {sl : List (Option SV)} (ro : Rep K mg old) (r : Rep K mg c) (x : Ext old c) (hσ : c.σ = wipeG old.σ vs) (hsl : c.sl = wipeG sl vs) (hl : sl.length = old.sl.length) (hno : noOwn old.sl vs = true) : Rep K mg (c.left old vs sl) ∧ (∀ a, Mu (c.left old vs sl) a → Mu c a) := by
  have inn : ∀ {i : Nat}, i ∉ vs → c.sl[i]? = sl[i]? := fun {i} h => by
    rw [hsl]
    exact wipeG_out h
  have out : ∀ {i : Nat}, i ∉ vs → c.σ[i]? = old.σ[i]? := fun {i} h => by
    rw [hσ]
    exact wipeG_out h
  have own : ∀ {i : Nat} {y : Cell}, (restG old.sl sl vs)[i]? = some (some (.own y)) → i ∉ vs ∧ c.sl[i]? = some (some (.own y)) := fun {i y} e => by
    by_cases hi : i ∈ vs
    · have h := restG_in hi e
      have h2 := List.all_eq_true.mp hno i hi
      rw [h] at h2
      cases h2
    · rw [restG_out hi] at e
      exact ⟨hi, (inn hi).trans e⟩
  refine ⟨⟨r.rc, ?_, fun i d e => ?_, fun i y e => ?_, fun i j y z a e1 e2 e3 e4 => ?_⟩, fun a h => ?_⟩
  · show (restG old.sl sl vs).length = old.σ.length
    rw [restG_len, hl]
    exact ro.sln
  · replace e : (restG old.sl sl vs)[i]? = some (some (.val d)) := e
    by_cases hi : i ∈ vs
    · obtain ⟨v, h1, h2⟩ := ro.val i d (restG_in hi e)
      exact ⟨v, h1, x.repV h2⟩
    · rw [restG_out hi] at e
      obtain ⟨v, h1, h2⟩ := r.val i d ((inn hi).trans e)
      exact ⟨v, (out hi).symm.trans h1, h2⟩
  · obtain ⟨hi, h⟩ := own e
    obtain ⟨a, h1, h2⟩ := r.own i y h
    exact ⟨a, (out hi).symm.trans h1, h2⟩
  · obtain ⟨hi, h1⟩ := own e1
    obtain ⟨hj, h2⟩ := own e2
    exact r.dis i j y z a h1 h2 ((out hi).trans e3) ((out hj).trans e4)
  · rcases h with h | ⟨i, y, e1, e2⟩
    · exact .inl h
    · obtain ⟨hi, h1⟩ := own e1
      exact .inr ⟨i, y, h1, (out hi).trans e2⟩
variable {elt tg iter : Expr} {ifs : List Expr} {scope : Scope} {own : List (Str × Nat)} {pos : Pos} {mi : M (List D)} {g : D → MS} {tt : M Bool} {te : M D}
theorem mts_nil {X : Cx} {W : WX} : PTs X [] (TB K mg W (pureM true)) := by
  refine ⟨fun pins s σ H Q I h => pts_nil.run pins s σ H Q I ?_⟩
  obtain ⟨c, rfl, rfl, rc, p⟩ := h
  exact Post.now (c := c) p rc
theorem mts_one {X : Cx} {W : WX} {e : Expr} (h : PT X e (TB K mg W tt)) : PTs X [e] (TB K mg W tt) := pts_one h
/-- a new list that nobody holds yet -/
def TFl (K : PySem.W.Frag) (mg : Str → Option Value) (W : WX) (m : M (List D)) : TE := fun σ H Q => ∃ c : Cfg, c.σ = σ ∧ c.h.H = H ∧ Rep K mg c ∧ Post K mg W c (fun ds c' => ∀ (p : Addr) (ws : List V), Fl c' p ws → c.h.H p = none → RepL K mg c'.h.ι c'.h.F ds ws → Q (.ref p) c'.h.H) (m c.s)
/-- the walk of a comprehension -/
theorem comp_core {vs : List Nat} {σ : L2.St} {H : Hp} {Q : VK} (h : TFl K mg W (compM vs mi g tt te) σ H Q) : tLc (TIm K mg W mi) (TGw K mg vs g) (TB K mg W0 tt) (T K mg W0 te) vs σ H Q := by
  obtain ⟨c, rfl, rfl, rc, q⟩ := h
  refine ⟨c, rfl, rfl, rc, (Post.bind (m := mi c.s) q).mono fun items c1 e1 r1 x1 q1 J hJ p hp => ?_⟩
  cases hno : noOwn c1.s.sl vs with
  | false =>
    rw [hno] at q1
    exact q1.elim
  | true =>
    rw [hno] at q1
    -- where the walk ends
    have pend : ∃ acc s', compL vs g tt te items [] c1.s = some (acc, s') ∧ ∀ c' : Cfg, c'.s = { s' with sl := restG c1.s.sl s'.sl vs } → c'.σ = c1.σ → Rep K mg c' → Ext c1 c' → ∀ (p : Addr) (ws : List V), Fl c' p ws → c.h.H p = none → RepL K mg c'.h.ι c'.h.F acc ws → Q (.ref p) c'.h.H := by
      cases e : compL vs g tt te items [] c1.s with
      | none =>
        rw [e] at q1
        exact q1.elim
      | some r =>
        rw [e] at q1
        exact ⟨r.1, r.2, rfl, q1⟩
    obtain ⟨accE, sE, hE, qE⟩ := pend
    have hF1 := r1.rc.fnone hp
    have hM1 : ¬ Mu c1 p := fun z => by
      rcases z with z | ⟨i, y, z1, z2⟩
      · exact r1.rc.tr p z hp
      · obtain ⟨a, h1, h2, h3, h4, h5⟩ := r1.own i y z1
        rw [h1] at z2
        cases z2
        exact h4 hp
    have hσ1 : c1.σ = c.σ := e1
    -- the invariant: the configuration ahead of a turn
    refine ⟨fun i n H => ∃ (cw : Cfg) (acc : List D) (ws : List V) (s : S), cw.h.H = H ∧ cw.σ = wipeG c.σ vs ∧ cw.s = { s with sl := wipeG s.sl vs } ∧ s.sl.length = c1.sl.length ∧ Rep K mg cw ∧ Ext c1 cw ∧ Fl cw p ws ∧ RepL K mg cw.h.ι cw.h.F acc ws ∧ i + n = items.length ∧ compL vs g tt te (items.drop i) acc s = some (accE, sE),
      ⟨items.length, (c1.wiped vs).fl p (.lst []), [], [], c1.s, rfl, ?_, rfl, rfl, (r1.wiped).fl hF1 ?_, (Ext.wiped).fl hp, ⟨upd_same, hF1, ?_⟩, rfl, by omega, by simpa using hE⟩, fun i n H hw => ?_⟩
    · show wipeG c1.σ vs = wipeG c.σ vs
      rw [hσ1]
    · exact fun z => hM1 (by
        rcases z with z | ⟨i, y, z1, z2⟩
        · exact .inl z
        · exact .inr ⟨i, y, (wipeG_in z1).2, (wipeG_in z2).2⟩)
    · exact fun z => hM1 (by
        rcases z with z | ⟨i, y, z1, z2⟩
        · exact .inl z
        · exact .inr ⟨i, y, (wipeG_in z1).2, (wipeG_in z2).2⟩)
    · obtain ⟨cw, acc, ws, s, rfl, e2, e3, e3l, rw', xw, fw, lw, hn, hC⟩ := hw
      by_cases hlt : i < items.length
      · refine .inr ⟨hJ.go cw i rw' xw hlt, fun H' => ∃ (cw : Cfg) (acc : List D) (ws : List V) (s : S), cw.h.H = H' ∧ cw.σ = wipeG c.σ vs ∧ cw.s = { s with sl := wipeG s.sl vs } ∧ s.sl.length = c1.sl.length ∧ Rep K mg cw ∧ Ext c1 cw ∧ Fl cw p ws ∧ RepL K mg cw.h.ι cw.h.F acc ws ∧ compL vs g tt te (items.drop (i + 1)) acc s = some (accE, sE), fun H' hN => ?_, fun x H' hy => ?_⟩
        · obtain ⟨cw, acc, ws, s, a1, a2, a3, a4, a5, a6, a7, a8, a9⟩ := hN
          exact ⟨n - 1, by omega, cw, acc, ws, s, a1, a2, a3, a4, a5, a6, a7, a8, by omega, a9⟩
        · have hget : items[i]? = some items[i] := List.getElem?_eq_getElem hlt
          obtain ⟨c3, rfl, e4, e5, r3, x3, hv⟩ := hJ.yld cw i x H' _ rw' xw hget hy
          have hd : items.drop i = items[i] :: items.drop (i + 1) := List.drop_eq_getElem_cons hlt
          rw [hd] at hC
          simp only [compL] at hC
          have f3 := fw.ext x3
          have l3 := x3.repL lw
          have x13 := xw.trans x3
          have e6 : ({ s with sl := wipeG s.sl vs } : S) = c3.s := by rw [e5, e3]
          rw [e6] at hC
          have e7 : c3.σ = wipe c.σ vs := by rw [e4, e2, wipe_eq]
          refine ⟨c3, items[i], e7, rfl, r3, hv, ?_⟩
          cases eg : g items[i] c3.s with
          | next s1 =>
            rw [eg] at hC
            simp only at hC
            refine fun c4 e8 r4 x4 hw4 => ⟨?_, c4, rfl, rfl, r4, ?_⟩
            · rw [wipe_eq, wipe_eq, hw4, e7, wipe_eq, wipeG_idem]
            rw [← e8] at hC
            have f4 := f3.ext x4
            have l4 := x4.repL l3
            have x14 := x13.trans x4
            cases et : tt c4.s with
            | ok b s2 =>
              rw [et] at hC
              intro c5 e9 e10 r5 x5
              have f5 := f4.ext x5
              have l5 := x5.repL l4
              have x15 := x14.trans x5
              have wσ : wipeG c4.σ vs = wipeG c.σ vs := by rw [hw4, e7, wipe_eq, wipeG_idem]
              have len4 : c4.σ.length = c1.sl.length := by
                have h := congrArg List.length wσ
                rw [wipeG_len, wipeG_len] at h
                rw [h, ← hσ1]
                exact r1.sln.symm
              cases b with
              | false =>
                simp only at hC
                refine iteF ⟨c5.wiped vs, acc, ws, c5.s, rfl, ?_, rfl, ?_, r5.wiped, x15.trans Ext.wiped, f5.ext Ext.wiped, (Ext.wiped (c := c5) (vs := vs)).repL l5, ?_⟩
                · show wipeG c5.σ vs = wipeG c.σ vs
                  rw [e10, wσ]
                · show c5.sl.length = c1.sl.length
                  rw [r5.sln, e10, len4]
                · rw [e9]
                  exact hC
              | true =>
                simp only at hC
                refine iteT ⟨c5, e10, rfl, r5, ?_⟩
                rw [e9]
                cases ey : te s2 with
                | ok y s3 =>
                  rw [ey] at hC
                  simp only at hC
                  intro c6 e11 e12 r6 x6 v hv6
                  have f6 := f5.ext x6
                  have l6 := x6.repL l5
                  have x16 := x15.trans x6
                  by_cases hsz : acc.length < sizeLine
                  · rw [decide_eq_true hsz] at hC
                    simp only at hC
                    refine ⟨ws, f6.H, by rw [← RepL.length l6]; exact hsz, (c6.wiped vs).fl p (.lst (ws ++ [v])), acc ++ [y], ws ++ [v], c6.s, rfl, ?_, rfl, ?_, (r6.wiped).fl f6.F (f6.ext Ext.wiped).M, Ext.fl (x16.trans Ext.wiped) hp, (f6.ext Ext.wiped).fl, l6.append (.one hv6), ?_⟩
                    · show wipeG c6.σ vs = wipeG c.σ vs
                      rw [e12, e10, wσ]
                    · show c6.sl.length = c1.sl.length
                      rw [r6.sln, e12, e10, len4]
                    · rw [e11]
                      exact hC
                  · rw [decide_eq_false hsz] at hC
                    cases hC
                | exc z s3 =>
                  rw [ey] at hC
                  cases hC
                | bad =>
                  rw [ey] at hC
                  cases hC
            | exc z s2 =>
              rw [et] at hC
              cases hC
            | bad =>
              rw [et] at hC
              cases hC
          | _ =>
            rw [eg] at hC
            cases hC
      · have hi : i = items.length := by omega
        subst hi
        refine .inl ⟨hJ.stop cw rw' xw, ?_⟩
        rw [List.drop_length] at hC
        cases hC
        have hsl : cw.sl = wipeG sE.sl vs := congrArg S.sl e3
        have hst : cw.h.st = sE.st := congrArg S.st e3
        obtain ⟨rL, mL⟩ := Rep.left (c := cw) (old := c1) (vs := vs) (sl := sE.sl) r1 rw' xw (by rw [e2, hσ1]) hsl e3l hno
        refine qE (cw.left c1 vs sE.sl) ?_ rfl rL ⟨xw.pre, xw.fz, xw.fr, xw.dom, xw.nf, fun a h => xw.ow a (mL a h)⟩ p ws ⟨fw.H, fw.F, fun z => fw.M (mL p z)⟩ (x1.dom p hp) lw
        show Mir.S.mk (restG c1.sl sE.sl vs) cw.h.st = _
        rw [hst]
        rfl
/-- [elt for tg in iter ..] -/
theorem me_lc (hc : X.calm = true) (hN : X.N.Nodup) (hi : PI X tg iter (TIm X.K mg W mi)) (ok : BlkOk X.N X.env.scope scope own)
    (hg : ∀ (s : Shared) (H : Hp) (C : Addr) (cl : List (Str × Addr)) (fp : List Addr), PG (X.blk s H scope (compEnvC scope cl C X.env) fp) tg (TGw X.K mg (own.map (·.2)) g)) (ht : ∀ (s : Shared) (H : Hp) (C : Addr) (cl : List (Str × Addr)) (fp : List Addr), PTs (X.blk s H scope (compEnvC scope cl C X.env) fp) ifs (TB X.K mg W0 tt))
    (he : ∀ (s : Shared) (H : Hp) (C : Addr) (cl : List (Str × Addr)) (fp : List Addr), PE (X.blk s H scope (compEnvC scope cl C X.env) fp) elt (T X.K mg W0 te)) (hs : ∀ x, foldedSetIterable iter X.env x = pure x := by intro _; rfl) :
    PE X (.ListComp elt [⟨tg, iter, ifs, 0⟩] scope pos) (TFl X.K mg W (compM (own.map (·.2)) mi g tt te)) :=
  PE.imp (pe_lc hc hN hi ok hg ht he hs) fun σ H Q h => comp_core h
/-- frozen at once -/
def frzM (m : M (List D)) : M D := bindM m fun ds s => .ok (.lst ds) s
/-- a cell at once -/
def boxM (m : M (List D)) : M D := bindM m fun ds s => .ok (.ref s.st.length) { s with st := s.st ++ [.lst ds] }
theorem frz_core {m : M (List D)} {σ : L2.St} {H : Hp} {Q : VK} (h : T K mg W (frzM m) σ H Q) : TFl K mg W m σ H Q := by
  obtain ⟨c, rfl, rfl, rc, q⟩ := h
  refine ⟨c, rfl, rfl, rc, ?_⟩
  unfold frzM bindM at q
  cases e : m c.s with
  | ok ds s =>
    rw [e] at q
    intro c1 e1 e2 r1 x1 p ws f hp l
    exact q (c1.still p (.lst ws)) e1 e2 (r1.still f) (x1.still hp f.F) (.ref p) (still_lst f.F l)
  | exc z s =>
    rw [e] at q
    exact q
  | bad =>
    rw [e] at q
    exact q
theorem me_frz {X : Cx} {e : Expr} {m : M (List D)} (h : PE X e (TFl K mg W m)) : PE X e (T K mg W (frzM m)) := PE.imp h fun _ _ _ q => frz_core q
/-- what was held aside becomes a cell -/
def HC.boxed (h : HC) (p : Addr) (x : Cell) : HC := { h with st := h.st ++ [x], ι := h.ι ++ [p] }
def Cfg.boxed (c : Cfg) (p : Addr) (x : Cell) : Cfg := { c with h := c.h.boxed p x }
theorem Rep.boxed {p : Addr} {x : Cell} (r : Rep K mg c) (hH : c.h.H p ≠ none) (hM : ¬ Mu c p) (hx : CellAt K mg (c.h.boxed p x) p x) : Rep K mg (c.boxed p x) := by
  have hp : p ∉ c.h.ι := fun z => hM (.inl z)
  refine ⟨⟨r.rc.fr, ?_, ?_, fun n a y e1 e2 => ?_, fun a h => ?_⟩, r.sln, fun i d e => ?_, fun i y e => ?_, r.dis⟩
  · show (c.h.ι ++ [p]).Nodup
    rw [List.nodup_append]
    refine ⟨r.rc.nd, by simp, fun a ha b hb => ?_⟩
    rw [List.mem_singleton] at hb
    rw [hb]
    exact fun z => hp (by rw [← z]; exact ha)
  · show (c.h.ι ++ [p]).length = (c.h.st ++ [x]).length
    rw [List.length_append, List.length_append, r.rc.len]
    rfl
  · have e1' : (c.h.ι ++ [p])[n]? = some a := e1
    have e2' : (c.h.st ++ [x])[n]? = some y := e2
    by_cases hn : n < c.h.ι.length
    · rw [List.getElem?_append_left hn] at e1'
      rw [List.getElem?_append_left (by rw [← r.rc.len]; exact hn)] at e2'
      exact (r.rc.cell n a y e1' e2').mono (r := [p]) rfl (fun _ _ z => z) (fun z => z) fun u z => z
    · rw [List.getElem?_append_right (by omega)] at e1'
      rw [List.getElem?_append_right (by rw [← r.rc.len]; omega), ← r.rc.len] at e2'
      have h0 : n - c.h.ι.length = 0 := by
        have := (List.getElem?_eq_some_iff.mp e1').1
        simpa using this
      rw [h0] at e1' e2'
      cases e1'
      cases e2'
      exact hx
  · rcases List.mem_append.mp h with z | z
    · exact r.rc.tr a z
    · rw [List.mem_singleton] at z
      rw [z]
      exact hH
  · obtain ⟨v, h1, h2⟩ := r.val i d e
    exact ⟨v, h1, RepV.mono (fun _ _ z => z) d v h2⟩
  · obtain ⟨a, h1, h2, h3, h4, h5⟩ := r.own i y e
    refine ⟨a, h1, fun z => ?_, h3, h4, h5.mono (r := [p]) rfl (fun _ _ z => z) (fun z => z) fun u z => z⟩
    rcases List.mem_append.mp z with z | z
    · exact h2 z
    · rw [List.mem_singleton] at z
      exact hM (.inr ⟨i, y, e, by rw [← z]; exact h1⟩)
theorem Ext.boxed {p : Addr} {x : Cell} {c0 : Cfg} (e : Ext c0 c) (h0 : c0.h.H p = none) : Ext c0 (c.boxed p x) := by
  refine ⟨?_, e.fz, e.fr, e.dom, e.nf, fun a h => ?_⟩
  · obtain ⟨r, hr⟩ := e.pre
    exact ⟨r ++ [p], by show c.h.ι ++ [p] = _; rw [hr, List.append_assoc]⟩
  · rcases h with h | h
    · rcases List.mem_append.mp h with z | z
      · exact e.ow a (.inl z)
      · rw [List.mem_singleton] at z
        rw [z]
        exact .inr h0
    · exact e.ow a (.inr h)
theorem box_core {m : M (List D)} {σ : L2.St} {H : Hp} {Q : VK} (h : T K mg W (boxM m) σ H Q) : TFl K mg W m σ H Q := by
  obtain ⟨c, rfl, rfl, rc, q⟩ := h
  refine ⟨c, rfl, rfl, rc, ?_⟩
  unfold boxM bindM at q
  cases e : m c.s with
  | ok ds s =>
    rw [e] at q
    intro c1 e1 e2 r1 x1 p ws f hp l
    have hst : s.st = c1.h.st := by rw [← e1]; rfl
    refine q (c1.boxed p (.lst ds)) ?_ e2 (r1.boxed (by rw [f.H]; exact fun z => nomatch z) f.M ⟨f.F, ws, f.H, RepL.mono (fun _ _ z => z) ds ws l⟩) (x1.boxed hp) (.ref p) ⟨p, rfl, ?_⟩
    · show Mir.S.mk c1.sl (c1.h.st ++ [Cell.lst ds]) = _
      rw [← hst, ← e1]
      rfl
    · show (c1.h.ι ++ [p])[s.st.length]? = some p
      rw [hst, ← r1.rc.len, List.getElem?_append_right (Nat.le_refl _), Nat.sub_self]
      rfl
  | exc z s =>
    rw [e] at q
    exact q
  | bad =>
    rw [e] at q
    exact q
theorem me_box {X : Cx} {e : Expr} {m : M (List D)} (h : PE X e (TFl K mg W m)) : PE X e (T K mg W (boxM m)) := PE.imp h fun _ _ _ q => box_core q
/-- a slot's own list -/
def setO (i : Nat) (m : M (List D)) : MS := bindS m fun ds s => .next { s with sl := s.sl.set i (some (.own (.lst ds))) }
def Cfg.hold (c : Cfg) (i : Nat) (x : Cell) (p : Addr) : Cfg := { c with sl := c.sl.set i (some (.own x)), σ := c.σ.set i (some (.ref p)) }
theorem Rep.hold {i : Nat} {x : Cell} {p : Addr} (r : Rep K mg c) (hF : c.h.F p = none) (hH : c.h.H p ≠ none) (hM : ¬ Mu c p) (hx : CellAt K mg c.h p x) : Rep K mg (c.hold i x p) := by
  have ne : ∀ {j : Nat} {y : Cell}, j ≠ i → (c.hold i x p).sl[j]? = some (some (.own y)) → c.sl[j]? = some (some (.own y)) := fun {j y} hj e => by
    replace e : (c.sl.set i (some (.own x)))[j]? = some (some (.own y)) := e
    rw [List.getElem?_set_ne hj.symm] at e
    exact e
  have σne : ∀ {j : Nat}, j ≠ i → (c.hold i x p).σ[j]? = c.σ[j]? := fun {j} hj => by
    show (c.σ.set i _)[j]? = _
    rw [List.getElem?_set_ne hj.symm]
  refine ⟨r.rc, ?_, fun j d e => ?_, fun j y e => ?_, fun j j' y z a e1 e2 e3 e4 => ?_⟩
  · show (c.sl.set i _).length = (c.σ.set i _).length
    rw [List.length_set, List.length_set]
    exact r.sln
  · replace e : (c.sl.set i (some (.own x)))[j]? = some (some (.val d)) := e
    by_cases hj : j = i
    · subst hj
      by_cases hl : j < c.sl.length
      · rw [List.getElem?_set_self hl] at e
        cases e
      · rw [List.getElem?_eq_none (by simpa using hl)] at e
        cases e
    · rw [List.getElem?_set_ne (fun z => hj z.symm)] at e
      obtain ⟨v, h1, h2⟩ := r.val j d e
      exact ⟨v, (σne hj).trans h1, h2⟩
  · by_cases hj : j = i
    · subst hj
      replace e : (c.sl.set j (some (.own x)))[j]? = some (some (.own y)) := e
      by_cases hl : j < c.sl.length
      · rw [List.getElem?_set_self hl] at e
        cases e
        exact ⟨p, List.getElem?_set_self (by rw [← r.sln]; exact hl), fun z => hM (.inl z), hF, hH, hx⟩
      · rw [List.getElem?_eq_none (by simpa using hl)] at e
        cases e
    · obtain ⟨a, h1, h2⟩ := r.own j y (ne hj e)
      exact ⟨a, (σne hj).trans h1, h2⟩
  · have at_i : ∀ {w : Cell} {b : Addr}, (c.hold i x p).sl[i]? = some (some (.own w)) → (c.hold i x p).σ[i]? = some (some (.ref b)) → b = p := fun {w b} z1 z2 => by
      replace z2 : (c.σ.set i (some (V.ref p)))[i]? = some (some (.ref b)) := z2
      by_cases hl : i < c.σ.length
      · rw [List.getElem?_set_self hl] at z2
        cases z2
        rfl
      · rw [List.getElem?_eq_none (by simpa using hl)] at z2
        cases z2
    by_cases hj : j = i
    · by_cases hj' : j' = i
      · rw [hj, hj']
      · subst hj
        have ea := at_i e1 e3
        subst ea
        exact absurd (.inr ⟨j', z, ne hj' e2, (σne hj').symm.trans e4⟩) hM
    · by_cases hj' : j' = i
      · subst hj'
        have ea := at_i e2 e4
        subst ea
        exact absurd (.inr ⟨j, y, ne hj e1, (σne hj).symm.trans e3⟩) hM
      · exact r.dis j j' y z a (ne hj e1) (ne hj' e2) ((σne hj).symm.trans e3) ((σne hj').symm.trans e4)
theorem Ext.hold {i : Nat} {x : Cell} {p : Addr} {c0 : Cfg} (e : Ext c0 c) (h0 : c0.h.H p = none) : Ext c0 (c.hold i x p) := by
  refine ⟨e.pre, e.fz, e.fr, e.dom, e.nf, fun a h => ?_⟩
  rcases h with h | ⟨j, y, h1, h2⟩
  · exact e.ow a (.inl h)
  · by_cases hj : j = i
    · subst hj
      replace h2 : (c.σ.set j (some (V.ref p)))[j]? = some (some (.ref a)) := h2
      by_cases hl : j < c.σ.length
      · rw [List.getElem?_set_self hl] at h2
        cases h2
        exact .inr h0
      · rw [List.getElem?_eq_none (by simpa using hl)] at h2
        cases h2
    · replace h1 : (c.sl.set i (some (.own x)))[j]? = some (some (.own y)) := h1
      replace h2 : (c.σ.set i (some (V.ref p)))[j]? = some (some (.ref a)) := h2
      rw [List.getElem?_set_ne (fun z => hj z.symm)] at h1 h2
      exact e.ow a (.inr ⟨j, y, h1, h2⟩)
theorem setO_core {i : Nat} {m : M (List D)} {σ : L2.St} {H : Hp} {D0 : Ends} (h : TSt K mg W (setO i m) D0 σ H) : TFl K mg W m σ H fun x H1 => gName i x σ H1 D0.nx := by
  obtain ⟨c, rfl, rfl, rc, q⟩ := h
  refine ⟨c, rfl, rfl, rc, ?_⟩
  unfold setO bindS at q
  cases e : m c.s with
  | ok ds s =>
    rw [e] at q
    intro c1 e1 e2 r1 x1 p ws f hp l
    have z := q (c1.hold i (.lst ds) p) (by rw [← e1]; rfl) (r1.hold f.F (by rw [f.H]; exact fun z => nomatch z) f.M ⟨f.F, ws, f.H, l⟩) (x1.hold hp)
    rw [← e2]
    exact z
  | exc z s =>
    rw [e] at q
    exact fun c' cv da e1 e2 => q c' cv da e1
  | bad =>
    rw [e] at q
    exact q
/-- name = a new list -/
theorem ms_setO {X : Cx} {i : Nat} {x : Str} {e : Expr} {m : M (List D)} {pos pos' : Pos} (hN : X.N.Nodup) (hi : X.N[i]? = some x) (hx : Loc X.env.scope x) (he : PE X e (TFl K mg W m)) (hs : swapsWith e (some (.Name x pos')) pos.line X.env = pure false := by rfl) (hf : X.fn x = true ∨ X.env.scope.names.lookup x = some .local := by first | exact .inl rfl | exact .inr rfl | assumption) :
    PS X (.Assign [.Name x pos'] e pos) (TSt K mg W (setO i m)) := PS.imp (ps_set hN hi hx he hs hf) fun _ _ _ h => setO_core h
/-- name = [..] -/
theorem ms_setLcO {i : Nat} {y : Str} {py : Pos} {spos : Pos} (hc : X.calm = true) (hN : X.N.Nodup) (hy : X.N[i]? = some y) (hyl : X.env.scope.names.lookup y = some .local)
    (hsw : swapsWith (.ListComp elt [⟨tg, iter, ifs, 0⟩] scope pos) (some (.Name y py)) spos.line X.env = pure true) (hi : PI X tg iter (TIm X.K mg W mi)) (ok : BlkOk X.N X.env.scope scope own)
    (hg : ∀ (s : Shared) (H : Hp) (C : Addr) (cl : List (Str × Addr)) (fp : List Addr), PG (X.blk s H scope (compEnvC scope cl C X.env) fp) tg (TGw X.K mg (own.map (·.2)) g)) (ht : ∀ (s : Shared) (H : Hp) (C : Addr) (cl : List (Str × Addr)) (fp : List Addr), PTs (X.blk s H scope (compEnvC scope cl C X.env) fp) ifs (TB X.K mg W0 tt))
    (he : ∀ (s : Shared) (H : Hp) (C : Addr) (cl : List (Str × Addr)) (fp : List Addr), PE (X.blk s H scope (compEnvC scope cl C X.env) fp) elt (T X.K mg W0 te)) (hs : ∀ x, foldedSetIterable iter X.env x = pure x := by intro _; rfl) :
    PS X (.Assign [.Name y py] (.ListComp elt [⟨tg, iter, ifs, 0⟩] scope pos) spos) (TSt X.K mg W (setO i (compM (own.map (·.2)) mi g tt te))) :=
  PS.imp (ps_setLc hc hN hy hyl hsw hi ok hg ht he hs) fun _ _ _ h => comp_core (setO_core h)
theorem ms_setLc {i : Nat} {y : Str} {py : Pos} {spos : Pos} (hc : X.calm = true) (hN : X.N.Nodup) (hy : X.N[i]? = some y) (hyl : X.env.scope.names.lookup y = some .local)
    (hsw : swapsWith (.ListComp elt [⟨tg, iter, ifs, 0⟩] scope pos) (some (.Name y py)) spos.line X.env = pure true) (hi : PI X tg iter (TIm X.K mg W mi)) (ok : BlkOk X.N X.env.scope scope own)
    (hg : ∀ (s : Shared) (H : Hp) (C : Addr) (cl : List (Str × Addr)) (fp : List Addr), PG (X.blk s H scope (compEnvC scope cl C X.env) fp) tg (TGw X.K mg (own.map (·.2)) g)) (ht : ∀ (s : Shared) (H : Hp) (C : Addr) (cl : List (Str × Addr)) (fp : List Addr), PTs (X.blk s H scope (compEnvC scope cl C X.env) fp) ifs (TB X.K mg W0 tt))
    (he : ∀ (s : Shared) (H : Hp) (C : Addr) (cl : List (Str × Addr)) (fp : List Addr), PE (X.blk s H scope (compEnvC scope cl C X.env) fp) elt (T X.K mg W0 te)) (hs : ∀ x, foldedSetIterable iter X.env x = pure x := by intro _; rfl) :
    PS X (.Assign [.Name y py] (.ListComp elt [⟨tg, iter, ifs, 0⟩] scope pos) spos) (TSt X.K mg W (setS (frzM (compM (own.map (·.2)) mi g tt te)) (setD i))) := by
  refine PS.imp (ps_setLc hc hN hy hyl hsw hi ok hg ht he hs) fun D0 σ H h => ?_
  obtain ⟨c, rfl, rfl, rc, q⟩ := h
  refine comp_core (Q := fun x H1 => gName i x c.σ H1 D0.nx) (frz_core ⟨c, rfl, rfl, rc, (PostS.bind (m := frzM (compM (own.map (·.2)) mi g tt te)) q).mono fun d c1 e1 r1 x1 p1 v hv => ?_⟩)
  have q := p1 (c1.put i d v) rfl (r1.put hv) Ext.put
  rw [← e1]
  exact q
/-- [..] as a new list -/
def lstL (ms : M (List D)) : M (List D) := bindM ms fun xs s => match decide (xs.length ≤ sizeLine) with
  | true => .ok xs s
  | false => .bad
theorem mf_lst {X : Cx} {es : List Expr} {pos : Pos} {ms : M (List D)} (h : PA X es (TL K mg W ms)) : PE X (.List es pos) (TFl K mg W (lstL ms)) := by
  refine PE.imp (pe_lst h) fun σ H Q h => ?_
  obtain ⟨c, rfl, rfl, rc, q⟩ := h
  refine ⟨c, rfl, rfl, rc, ?_⟩
  unfold lstL bindM at q
  cases e : ms c.s with
  | ok xs s =>
    rw [e] at q
    intro c1 e1 e2 r1 x1 v hv
    have hl := RepL.length hv
    by_cases hx : xs.length ≤ sizeLine
    · replace q : Post K mg W c (fun ds c' => ∀ (p : Addr) (ws : List V), Fl c' p ws → c.h.H p = none → RepL K mg c'.h.ι c'.h.F ds ws → Q (.ref p) c'.h.H) (match decide (xs.length ≤ sizeLine) with
        | true => .ok xs s
        | false => .bad) := q
      rw [decide_eq_true hx] at q
      refine ⟨by omega, fun p hp => ?_⟩
      have hM : ¬ Mu c1 p := fun z => by
        rcases z with z | ⟨i, y, z1, z2⟩
        · exact r1.rc.tr p z hp
        · obtain ⟨a, h1, h2, h3, h4, h5⟩ := r1.own i y z1
          rw [h1] at z2
          cases z2
          exact h4 hp
      exact q (c1.fl p (.lst v)) e1 e2 (r1.fl (r1.rc.fnone hp) hM) (x1.fl (x1.dom p hp)) p v ⟨upd_same, r1.rc.fnone hp, hM⟩ (x1.dom p hp) hv
    · replace q : Post K mg W c (fun ds c' => ∀ (p : Addr) (ws : List V), Fl c' p ws → c.h.H p = none → RepL K mg c'.h.ι c'.h.F ds ws → Q (.ref p) c'.h.H) (match decide (xs.length ≤ sizeLine) with
        | true => .ok xs s
        | false => .bad) := q
      rw [decide_eq_false hx] at q
      exact q.elim
  | exc z s =>
    rw [e] at q
    exact q
  | bad =>
    rw [e] at q
    exact q
/-- a target of a comprehension: one of its own names -/
theorem mgw_name {X : Cx} {vs : List Nat} {i : Nat} {x : Str} {pos : Pos} (hm : i ∈ vs) (hN : X.N.Nodup) (hi : X.N[i]? = some x) (hx : Loc X.env.scope x) (hf : X.fn x = true ∨ X.env.scope.names.lookup x = some .local := by first | exact .inl rfl | exact .inr rfl | assumption) : PG X (.Name x pos) (TGw K mg vs (setD i)) := by
  refine PG.imp (pg_name (pos := pos) hN hi hx hf) fun v σ H Q q => ?_
  obtain ⟨c, d, rfl, rfl, rc, hv, p⟩ := q
  exact p (c.put i d v) rfl (rc.put hv) Ext.put (wipeG_set hm)
end
end Mir
/-! M7: defs and their calls. -/
namespace Mir
open PySem PySem.Spec PyProof.Rows L2

/-- a def's promise, where no repr is under way -/
structure FnG (P : Program) (w : World) (K : PySem.W.Frag) (mg : Str → Option Value) (base : Heap) (k : Nat) (f : Addr) (fd : FuncData) (ps : List Str) (sp : Sp) : Prop where
  len : ∀ vs H Q E, sp vs H Q E → vs.length = ps.length
  run : ∀ (A : Around) (outer : List Env) (s : Shared) (H : Hp) (args : Args) (us : List Value) (vs : List V) (Q : VK) (E : XK), Room k A → A.guards = some [] → Env0 P w K mg base A outer s H → BindsTo s fd args (ps.zip us) → Vals vs us → sp vs H Q E →
    codeAny (model P w) A (.call (.ref f) args) (CR (L2.CX P w) outer P w H s Q E) s
theorem FnG.mono {P : Program} {w : World} {K : PySem.W.Frag} {mg : Str → Option Value} {base : Heap} {j k : Nat} {f : Addr} {fd : FuncData} {ps : List Str} {sp : Sp} (F : FnG P w K mg base j f fd ps sp) (h : j ≤ k) : FnG P w K mg base k f fd ps sp :=
  ⟨F.len, fun A outer s H args us vs Q E hr => F.run A outer s H args us vs Q E (hr.mono h)⟩
section
variable {P : Program} {w : World} {K : PySem.W.Frag} {mg : Str → Option Value} {base : Heap}
theorem fnG_of {x qual : Str} {st : Stmt} {f : Addr} {fd : FuncData} {N ps : List Str} {k : Nat} {sp : Sp} (F : Fun K x qual st f fd) (S : FnScope N ps (defScope st)) (len : ∀ vs H Q E, sp vs H Q E → vs.length = ps.length)
    (hb : ∀ (cdv : Value) (A : Around) (outer : List Env) (s : Shared) (H : Hp) (vs : List V) (Q : VK) (E : XK), Room k (A.deeper (envOfC qual (defScope st) s.heap.objs.size f cdv)) → A.guards = some [] → sp vs H Q E →
      ∃ t, PSs (cxOf (L2.CX P w) P w K mg base N qual (defScope st) f cdv A outer s H E) (defBody st) t ∧ t { nx := fun _ H' => Q .non H', rt := Q } (start N vs) H) : FnG P w K mg base (k + 1) f fd ps sp := by
  obtain ⟨oc, od, kV, doc, pm, an, cdv, ct, osl, rfl, look, code⟩ := F.ex
  constructor
  · exact len
  intro A outer s H args us vs Q E room guards e0 binds vals promise
  have nArgs := len _ _ _ _ promise
  have kIn : K.In s.heap := e0.mod.kin.keeps (fun b o q => (e0.bs b o q).1)
  have noLim : s.heap.NoLimit := e0.mod.nolimit.keeps (fun b o q => (e0.bs b o q).1)
  have kinds : ∀ y ∈ ps.zip us, (defScope st).names.lookup y.1 = some .local ∨ ((defScope st).names.lookup y.1 = some .cell ∧ ((cellsFrom (s.heap.objs.size + 1) (defScope st).names []).lookup y.1).isSome = true) := by
    rintro ⟨n, v⟩ hy
    rcases S.par n (List.of_mem_zip hy).1 with q | q
    · exact .inl q
    · exact .inr ⟨q, PySem.W.cellsFrom_some _ _ _ (.inl q)⟩
  refine codeAny_call_function room.depth (kIn _ _ look) rfl S.co S.gen rfl (PySem.W.codeRec_of kIn code) (binds _ _ _ _ ?_)
  refine wpAny_newFunctionEnv_cells S.kind kinds fun env henv s1 x => ?_
  subst henv
  refine ⟨noLim.keeps x.toInCall.keep, codeAny_func ?_⟩
  obtain ⟨t, body, reading⟩ := hb cdv A outer s H vs Q E (room.deeper _) guards promise
  have I0 : Inv (cxOf (L2.CX P w) P w K mg base N qual (defScope st) f cdv A outer s H E) [] (start N vs) H s1 := inv_start S room.hd e0 nArgs vals x
  refine wpAny_mono (body.run [] s1 (start N vs) H _ I0 reading) ?_ (fun e s' hs => hs)
  intro fl s' hs
  have fin : ∀ {σ' : L2.St} {H' : Hp} {v : V} {u : Value}, Inv (cxOf (L2.CX P w) P w K mg base N qual (defScope st) f cdv A outer s H E) [] σ' H' s' → RelV v u → Q v H' → CE outer P w H s Q u s' := by
    intro σ' H' v u J rv q
    exact ⟨v, H', J.os, J.bare, J.base, J.hok, rv, q⟩
  cases fl with
  | next =>
    obtain ⟨σ', H', J, q⟩ := hs
    exact fin (v := V.non) (u := Value.none) J rfl q
  | ret u =>
    obtain ⟨v, σ', H', J, rv, q⟩ := hs
    exact fin J rv q
  | brk =>
    obtain ⟨_, _, _, q⟩ := hs
    exact q.elim
  | cont =>
    obtain ⟨_, _, _, q⟩ := hs
    exact q.elim
end

/-! ### mirrors of defs -/
inductive RF where
  | ok (d : D) (st : List Cell)
  | exc (x : Ex) (st : List Cell)
  | bad
abbrev MF := List D → List Cell → RF
def slots (n : Nat) (ds : List D) : List (Option SV) := ds.map (fun d => some (.val d)) ++ List.replicate (n - ds.length) none
def outF : RS → RF
  | .next s => .ok .non s.st
  | .ret d s => .ok d s.st
  | .exc x s => .exc x s.st
  | _ => .bad
def callB (n k : Nat) (m : MS) : MF := fun ds st => match decide (ds.length = k) with
  | true => outF (m ⟨slots n ds, st⟩)
  | false => .bad
def callM (f : MF) (ms : M (List D)) : M D := bindM ms fun xs s => match f xs s.st with
  | .ok d st => .ok d { s with st := st }
  | .exc x st => .exc x { s with st := st }
  | .bad => .bad
section
variable (K : PySem.W.Frag) (mg : Str → Option Value)
def PostF (h : HC) (Q : VK) (E : XK) : RF → Prop
  | .ok d st => ∀ (h' : HC) (v : V), h'.st = st → RepC K mg h' → Ext0 (· ∈ h.ι) (· ∈ h'.ι) h h' → RepV K mg h'.ι h'.F d v → Q v h'.H
  | .exc x st => ∀ (h' : HC) (cv : Value) (da : Option Addr), h'.st = st → RepC K mg h' → Ext0 (· ∈ h.ι) (· ∈ h'.ι) h h' → RepX K mg h' x cv da → E cv da h'.H
  | .bad => False
def SpM (k : Nat) (m : MF) : Sp := fun vs H Q E => ∃ (ds : List D) (h : HC), h.H = H ∧ RepC K mg h ∧ RepL K mg h.ι h.F ds vs ∧ ds.length = k ∧ PostF K mg h Q E (m ds h.st)
end
section
variable {K : PySem.W.Frag} {mg : Str → Option Value} {W : WX} {X : Cx} {c c1 : Cfg}
theorem SpM.len {k : Nat} {m : MF} {ps : List Str} (hk : k = ps.length) : ∀ vs H Q E, SpM K mg k m vs H Q E → vs.length = ps.length := by
  rintro vs H Q E ⟨ds, h, e, r, l, hl, p⟩
  rw [← RepL.length l, hl, hk]
theorem slots_val {n i : Nat} {ds : List D} {y : SV} (h : (slots n ds)[i]? = some (some y)) : ∃ d, ds[i]? = some d ∧ y = .val d := by
  unfold slots at h
  by_cases hi : i < ds.length
  · rw [List.getElem?_append_left (by simpa using hi), List.getElem?_map] at h
    cases hd : ds[i]? with
    | none =>
      rw [hd] at h
      cases h
    | some d =>
      rw [hd] at h
      cases h
      exact ⟨d, rfl, rfl⟩
  · rw [List.getElem?_append_right (by simpa using hi)] at h
    have z := List.mem_of_getElem? h
    rw [List.mem_replicate] at z
    cases z.2
theorem Rep.start {h : HC} {N : List Str} {ds : List D} {vs : List V} (r : RepC K mg h) (l : RepL K mg h.ι h.F ds vs) : Rep K mg ⟨h, slots N.length ds, start N vs⟩ := by
  have hl := RepL.length l
  refine ⟨r, ?_, fun i d e => ?_, fun i x e => ?_, fun i j x y a e1 => ?_⟩
  · simp [slots, L2.start, hl]
  · obtain ⟨d', h1, h2⟩ := slots_val e
    cases h2
    obtain ⟨v, h3, h4⟩ := l.get h1
    refine ⟨v, ?_, h4⟩
    show (vs.map some ++ List.replicate (N.length - vs.length) none)[i]? = some (some v)
    rw [List.getElem?_append_left (by simpa using (List.getElem?_eq_some_iff.mp h3).1), List.getElem?_map, h3]
    rfl
  · obtain ⟨d', h1, h2⟩ := slots_val e
    cases h2
  · obtain ⟨d', h1, h2⟩ := slots_val e1
    cases h2
theorem noMu_start {h : HC} {N : List Str} {ds : List D} {vs : List V} {a : Addr} (z : Mu ⟨h, slots N.length ds, start N vs⟩ a) : a ∈ h.ι := by
  rcases z with z | ⟨i, x, e, _⟩
  · exact z
  · obtain ⟨d', h1, h2⟩ := slots_val e
    cases h2
theorem Ext.toF {h : HC} {N : List Str} {ds : List D} {vs : List V} {c' : Cfg} (x : Ext ⟨h, slots N.length ds, start N vs⟩ c') : Ext0 (· ∈ h.ι) (· ∈ c'.h.ι) h c'.h := by
  refine ⟨x.pre, x.fz, fun a o e n => x.fr a o e fun z => n (noMu_start z), x.dom, fun a o e => ?_, fun a e => ?_⟩
  · rcases x.nf a o e with q | q | q
    · exact .inl q
    · exact .inr (.inl q)
    · exact .inr (.inr (noMu_start q))
  · rcases x.ow a (.inl e) with q | q
    · exact .inl (noMu_start q)
    · exact .inr q
/-- THE RULE for a def: its body's mirror is its own -/
theorem fnM_of {P : Program} {w : World} {base : Heap} {x qual : Str} {st : Stmt} {f : Addr} {fd : FuncData} {N ps : List Str} {k ar : Nat} {m : MS} (F : Fun K x qual st f fd) (S : FnScope N ps (defScope st)) (har : ar = ps.length)
    (hb : ∀ (cdv : Value) (A : Around) (outer : List Env) (s : Shared) (H : Hp) (E : XK) (W : WX), Room k (A.deeper (envOfC qual (defScope st) s.heap.objs.size f cdv)) → (A.deeper (envOfC qual (defScope st) s.heap.objs.size f cdv)).guards = some [] →
      Takes (cxOf (L2.CX P w) P w K mg base N qual (defScope st) f cdv A outer s H E) W → PSs (cxOf (L2.CX P w) P w K mg base N qual (defScope st) f cdv A outer s H E) (defBody st) (TSt K mg W m)) :
    FnG P w K mg base (k + 1) f fd ps (SpM K mg ar (callB N.length ar m)) := by
  refine fnG_of F S (SpM.len har) fun cdv A outer s H vs Q E hr hg h => ?_
  obtain ⟨ds, h0, rfl, r, l, hl, p⟩ := h
  refine ⟨_, hb cdv A outer s h0.H E (fun cv da _ H => E cv da H) hr hg (takes_of rfl rfl rfl rfl), ⟨h0, slots N.length ds, start N vs⟩, rfl, rfl, Rep.start r l, ?_⟩
  unfold callB at p
  rw [decide_eq_true hl] at p
  show PostS K mg _ _ _ (m ⟨slots N.length ds, h0.st⟩)
  replace p : PostF K mg h0 Q E (outF (m ⟨slots N.length ds, h0.st⟩)) := p
  cases e : m ⟨slots N.length ds, h0.st⟩ with
  | next s =>
    rw [e] at p
    exact fun c' e1 r1 x1 => p c'.h .non (congrArg Mir.S.st e1) r1.rc (Ext.toF x1) rfl
  | ret d s =>
    rw [e] at p
    exact fun c' v e1 r1 x1 hv => p c'.h v (congrArg Mir.S.st e1) r1.rc (Ext.toF x1) hv
  | exc z s =>
    rw [e] at p
    exact fun c' cv da e1 r1 x1 hz => p c'.h cv da (congrArg Mir.S.st e1) r1.rc (Ext.toF x1) hz
  | brk s =>
    rw [e] at p
    exact p.elim
  | cont s =>
    rw [e] at p
    exact p.elim
  | bad =>
    rw [e] at p
    exact p.elim

/-! ### behind a call -/
theorem Rep.called {h : HC} (r : Rep K mg c) (rc : RepC K mg h) (x : Ext0 (· ∈ c.h.ι) (· ∈ h.ι) c.h h) : Rep K mg { c with h := h } := by
  refine ⟨rc, r.sln, fun i d e => ?_, fun i y e => ?_, r.dis⟩
  · obtain ⟨v, h1, h2⟩ := r.val i d e
    exact ⟨v, h1, x.repV h2⟩
  · obtain ⟨a, h1, h2, h3, h4, h5⟩ := r.own i y e
    obtain ⟨q, hq⟩ := x.pre
    have hF : h.F a = none := by
      cases z : h.F a with
      | none => rfl
      | some o =>
        rcases x.nf a o z with y | y | y
        · rw [h3] at y
          cases y
        · exact absurd y h4
        · exact absurd y h2
    refine ⟨a, h1, fun z => ?_, hF, fun z => h4 (x.dom a z), h5.mono hq x.fz (fun _ => hF) fun u z => x.fr a u z h2⟩
    rcases x.ow a z with y | y
    · exact h2 y
    · exact h4 y
theorem Ext.called {h : HC} (x : Ext0 (· ∈ c.h.ι) (· ∈ h.ι) c.h h) : Ext c { c with h := h } := by
  refine ⟨x.pre, x.fz, fun a o e n => x.fr a o e fun z => n (.inl z), x.dom, fun a o e => ?_, fun a e => ?_⟩
  · rcases x.nf a o e with q | q | q
    · exact .inl q
    · exact .inr (.inl q)
    · exact .inr (.inr (.inl q))
  · rcases e with e | e
    · rcases x.ow a e with q | q
      · exact .inl (.inl q)
      · exact .inr q
    · exact .inl (.inr e)
variable {f : Addr} {fd : FuncData} {ps : List Str} {sp : Sp} {k ar : Nat} {m : MF} {x : Str} {p pos : Pos} {e : Expr} {es : List Expr} {ms : M (List D)} {ds : List Value} {dvs : List V} {t : TA} {E : L2.St → XK}
theorem run_g {pins : List (Addr × Obj)} {σ : L2.St} {H : Hp} {s : Shared} {Q : VK} {us : List Value} {kw : List (Str × Value)} {vs : List V} {ws : List Value} (F : FnG X.prog X.w X.K X.mg X.base k f fd ps sp) (hr : Room k X.A) (hg : X.A.guards = some []) (hb : BindsTo s fd ⟨us, kw⟩ (ps.zip ws)) (hx : PassesAt (L2.CX X.prog X.w) X σ (E σ))
    (I : Inv X pins σ H s) (r : Vals vs ws) (h : sp vs H Q (E σ)) : wpAny (model X.prog X.w) X.A (call (.ref f) us kw) (EP X pins σ Q) X.xe s := by
  refine wpAny_call (codeAny_mono (F.run X.A X.stack s H ⟨us, kw⟩ ws vs Q (E σ) hr hg I.env0 hb r h) ?_)
  intro res s' got
  cases res with
  | error er => exact hx pins H s er s' I got
  | ok fl =>
    cases fl with
    | ret u => exact I.after got
    | next => exact got.elim
    | brk => exact got.elim
    | cont => exact got.elim
theorem pe_callG (F : FnG X.prog X.w X.K X.mg X.base k f fd ps sp) (hr : Room k X.A) (hgd : X.A.guards = some []) (hg : Gl X x) (hm : X.mg x = some (.ref f)) (hk : PySem.W.keepIn X.K (.ref f) = true) (hb : Binds X.K fd ps ds) (hd : Vals dvs ds) (hx : ∀ σ, PassesAt (L2.CX X.prog X.w) X σ (E σ))
    (ha : PA X (e :: es) t) (hdb : (x == ("__debug__" : Str)) = false := by decide) (he : starEach (e :: es) X.env = (false, eval e X.env) :: starEach es X.env := by rfl) (hpl : (backTo pos (starEach es X.env)).any (·.1) = false := by rfl) :
    PE X (.Call (.Name x p) (e :: es) [] pos) (tCallSD sp dvs E t) := by
  constructor
  intro pins s σ H Q I h
  refine wpAny_Call_Name_kw (ld_glob I hg hm ?_ hdb)
  refine PySem.W.callWith_K (h₀ := X.base) I.ok.mod.kin hk (thn (ha.run pos pins s σ H _ I h) ?_) he hpl
  rintro us s1 ⟨vs, H1, I1, r, q⟩
  refine ⟨I1.kIn, ?_⟩
  have r2 : Vals (vs ++ dvs) (us ++ ds) := r.append hd
  exact run_g F hr hgd (hb s1 us I1.kIn (by rw [← r2.length]; exact F.len _ _ _ _ q)) (hx σ) I1 r2 q
theorem pe_callG0 (F : FnG X.prog X.w X.K X.mg X.base k f fd ps sp) (hr : Room k X.A) (hgd : X.A.guards = some []) (hg : Gl X x) (hm : X.mg x = some (.ref f)) (hk : PySem.W.keepIn X.K (.ref f) = true) (hb : Binds X.K fd ps ds) (hd : Vals dvs ds) (hx : ∀ σ, PassesAt (L2.CX X.prog X.w) X σ (E σ))
    (hdb : (x == ("__debug__" : Str)) = false := by decide) : PE X (.Call (.Name x p) [] [] pos) (tCallSD sp dvs E tNil) := by
  constructor
  intro pins s σ H Q I h
  refine wpAny_Call_Name_kw (ld_glob I hg hm ?_ hdb)
  have r2 : Vals ([] ++ dvs) ([] ++ ds) := hd
  exact PySem.W.callWith_K0 I.kIn hk (run_g (us := []) F hr hgd (hb s [] I.kIn (by rw [← r2.length]; exact F.len _ _ _ _ h)) (hx σ) I r2 h)
theorem callM_core {σ : L2.St} {H : Hp} {Q : VK} (har : ∀ (c : Cfg) (xs : List D) (s : S), ms c.s = .ok xs s → m xs s.st ≠ .bad → xs.length = ar) (h : T K mg W (callM m ms) σ H Q) : tCallSD (SpM K mg ar m) [] (WE W) (TL K mg W ms) σ H Q := by
  obtain ⟨c, rfl, rfl, rc, q⟩ := h
  have key : ∀ (xs : List D) (c1 : Cfg) (vs : List V), c1.σ = c.σ → Rep K mg c1 → (m xs c1.s.st ≠ .bad → xs.length = ar) → RepL K mg c1.h.ι c1.h.F xs vs → Post K mg W c1 (fun d c' => ∀ v, RepV K mg c'.h.ι c'.h.F d v → Q v c'.h.H) (match m xs c1.s.st with
      | .ok d st => .ok d { c1.s with st := st }
      | .exc x st => .exc x { c1.s with st := st }
      | .bad => .bad) → SpM K mg ar m (vs ++ []) c1.h.H Q (WE W c.σ) := by
    intro xs c1 vs e1 r1 hl hv q1
    rw [List.append_nil]
    have hl' : xs.length = ar := hl fun z => by
      rw [z] at q1
      exact q1
    refine ⟨xs, c1.h, rfl, r1.rc, hv, hl', ?_⟩
    show PostF K mg c1.h Q (WE W c.σ) (m xs c1.s.st)
    cases e : m xs c1.s.st with
    | ok d st =>
      rw [e] at q1
      intro h' v e2 rc' x' hv'
      exact q1 { c1 with h := h' } (by show S.mk c1.sl h'.st = _; rw [e2]; rfl) rfl (r1.called rc' x') (Ext.called x') v hv'
    | exc z st =>
      rw [e] at q1
      intro h' cv da e2 rc' x' hz
      rw [← e1]
      exact q1 { c1 with h := h' } cv da (by show S.mk c1.sl h'.st = _; rw [e2]; rfl) rfl (r1.called rc' x') (Ext.called x') hz
    | bad =>
      rw [e] at q1
      exact q1
  refine ⟨c, rfl, rfl, rc, ?_⟩
  have q' := Post.bind (m := ms c.s) q
  cases e : ms c.s with
  | ok xs s =>
    rw [e] at q'
    intro c1 e1 e2 r1 x1 vs hv
    exact key xs c1 vs e2 r1 (fun z => har c xs s e (by rw [← e1]; exact z)) hv (q' c1 e1 e2 r1 x1)
  | exc z s =>
    rw [e] at q'
    exact q'
  | bad =>
    rw [e] at q'
    exact q'
/-- how many arguments are written -/
def argN : List D → Nat → MF → Prop := fun _ _ _ => True
theorem callB_len {n k : Nat} {b : MS} {xs : List D} {st : List Cell} (h : callB n k b xs st ≠ .bad) : xs.length = k := by
  by_cases hl : xs.length = k
  · exact hl
  · exact absurd (by unfold callB; rw [decide_eq_false hl]) h
theorem me_call (F : FnG X.prog X.w X.K X.mg X.base k f fd ps (SpM X.K mg ar m)) (hmb : ∀ xs st, m xs st ≠ .bad → xs.length = ar) (hr : Room k X.A) (hgd : X.A.guards = some []) (tk : Takes X W) (hg : Gl X x) (hm : X.mg x = some (.ref f)) (hk : PySem.W.keepIn X.K (.ref f) = true) (hb : Binds X.K fd ps [])
    (ha : PA X (e :: es) (TL X.K mg W ms)) (hdb : (x == ("__debug__" : Str)) = false := by decide) (he : starEach (e :: es) X.env = (false, eval e X.env) :: starEach es X.env := by rfl) (hpl : (backTo pos (starEach es X.env)).any (·.1) = false := by rfl) :
    PE X (.Call (.Name x p) (e :: es) [] pos) (T X.K mg W (callM m ms)) :=
  PE.imp (pe_callG F hr hgd hg hm hk hb .nil (fun σ => passAt tk σ) ha hdb he hpl) fun _ _ _ h => callM_core (fun _ xs s _ z => hmb xs s.st z) h
end
end Mir
/-! M8: calls with keywords; the law's own end. -/
namespace Mir
open PySem PySem.Spec PyProof.Rows L2
/-- keywords: how the values come to the parameters -/
structure KwB (K : PySem.W.Frag) (fd : FuncData) (ps : List Str) (n : Nat) (ks : List Str) (g : {α : Type} → List α → List α → List α) : Prop where
  to : ∀ (s : Shared) (us ws : List Value), K.In s.heap → us.length = n → ws.length = ks.length → BindsTo s fd ⟨us, ks.zip ws⟩ (ps.zip (g us ws))
def kwM (f : MF) (n k : Nat) (g : List D → List D → List D) (ms mk : M (List D)) : M D := bindM ms fun xs => bindM mk fun zs s => match decide (xs.length = n ∧ zs.length = k) with
  | true => (match f (g xs zs) s.st with
    | .ok d st => .ok d { s with st := st }
    | .exc x st => .exc x { s with st := st }
    | .bad => .bad)
  | false => .bad
def RelG (g : {α : Type} → List α → List α → List α) : Prop :=
  (∀ {vs : List V} {us : List Value} {zs : List V} {ws : List Value}, Vals vs us → Vals zs ws → Vals (g vs zs) (g us ws)) ∧
  ∀ (K : PySem.W.Frag) (mg : Str → Option Value) (ι : List Addr) (F : Hp) {ds : List D} {vs : List V} {es : List D} {ws : List V}, RepL K mg ι F ds vs → RepL K mg ι F es ws → RepL K mg ι F (g ds es) (g vs ws)
section
variable {K : PySem.W.Frag} {mg : Str → Option Value} {W : WX} {X : Cx} {c c1 : Cfg}
variable {f : Addr} {fd : FuncData} {ps : List Str} {sp : Sp} {k ar n : Nat} {m : MF} {x : Str} {p pos kpos : Pos} {e : Expr} {es : List Expr} {ms mk : M (List D)} {ds : List Value} {dvs : List V} {t tk : TA} {E : L2.St → XK} {kws : List Keyword} {ks : List Str} {nm : Option Str} {ma : M D}
theorem PK.imp {X : Cx} {kws : List Keyword} {t t' : TA} (h : PK X kws t) (k : ∀ σ H Q, t' σ H Q → t σ H Q) : PK X kws t' := ⟨fun pos pins s σ H Q I q => h.run pos pins s σ H Q I (k σ H Q q)⟩
theorem mk_nil : PK X [] (TL K mg W (pureM [])) := by
  refine PK.imp pk_nil fun σ H Q h => ?_
  obtain ⟨c, rfl, rfl, rc, p⟩ := h
  exact Post.now (c := c) p rc _ rfl
theorem mk_cons (ha : PE X e (T K mg W ma)) (hr : PK X kws (TL K mg W ms)) : PK X (⟨nm, e, kpos⟩ :: kws) (TL K mg W (consM ma ms)) := by
  refine PK.imp (pk_cons ha hr) fun σ H Q h => ?_
  obtain ⟨c, rfl, rfl, rc, p⟩ := h
  refine ⟨c, rfl, rfl, rc, (Post.bind (m := ma c.s) p).mono fun x c1 e1 r1 x1 p1 v hv => ?_⟩
  refine ⟨c1, e1, rfl, r1, (Post.bind (m := ms c1.s) p1).mono fun y c2 e2 r2 x2 p2 w hw => ?_⟩
  exact Post.now (c := c2) p2 r2 _ ⟨v, w, rfl, x2.repV hv, hw⟩
def tKw (n k : Nat) (sp : Sp) (gV : List V → List V → List V) (E : L2.St → XK) (t tk : TA) : TE := fun σ H Q => t σ H fun vs H1 => tk σ H1 fun zs H2 => vs.length = n ∧ zs.length = k ∧ sp (gV vs zs) H2 Q (E σ)
variable {g : {α : Type} → List α → List α → List α}
theorem pe_callKG (F : FnG X.prog X.w X.K X.mg X.base k f fd ps sp) (hr : Room k X.A) (hgd : X.A.guards = some []) (hg : Gl X x) (hm : X.mg x = some (.ref f)) (hk : PySem.W.keepIn X.K (.ref f) = true) (hb : KwB X.K fd ps n ks g) (hrel : RelG g) (hx : ∀ σ, PassesAt (L2.CX X.prog X.w) X σ (E σ))
    (ha : PA X (e :: es) t) (hkw : PK X kws tk) (hall : (backToKw pos (keywordEach kws X.env)).all (·.1.isSome) = true := by rfl) (hks : (backToKw pos (keywordEach kws X.env)).filterMap (·.1) = ks := by rfl)
    (hdb : (x == ("__debug__" : Str)) = false := by decide) (he : starEach (e :: es) X.env = (false, eval e X.env) :: starEach es X.env := by rfl)
    (hpl : ((backTo pos (starEach (e :: es) X.env)).any (·.1) || (backToKw pos (keywordEach kws X.env)).any (·.1.isNone)) = false := by rfl) :
    PE X (.Call (.Name x p) (e :: es) kws pos) (tKw n ks.length sp g E t tk) := by
  constructor
  intro pins s σ H Q I h
  refine wpAny_Call_Name_kw (ld_glob I hg hm ?_ hdb)
  refine PySem.W.callWith_KW (h₀ := X.base) I.ok.mod.kin hk hall (thn (ha.run pos pins s σ H _ I h) ?_) hpl he
  rintro us s1 ⟨vs, H1, I1, r, q⟩
  refine thn (hkw.run pos pins s1 σ H1 _ I1 q) ?_
  rintro ws s2 ⟨zs, H2, I2, rz, l1, l2, q2⟩
  refine ⟨I2.kIn, ?_⟩
  rw [hks]
  exact run_g F hr hgd (hb.to s2 us ws I2.kIn (by rw [← r.length]; exact l1) (by rw [← rz.length]; exact l2)) (hx σ) I2 (hrel.1 r rz) q2
theorem pe_callKG0 (F : FnG X.prog X.w X.K X.mg X.base k f fd ps sp) (hr : Room k X.A) (hgd : X.A.guards = some []) (hg : Gl X x) (hm : X.mg x = some (.ref f)) (hk : PySem.W.keepIn X.K (.ref f) = true) (hb : KwB X.K fd ps 0 ks g) (hrel : RelG g) (hx : ∀ σ, PassesAt (L2.CX X.prog X.w) X σ (E σ))
    (hkw : PK X kws tk) (hall : (backToKw pos (keywordEach kws X.env)).all (·.1.isSome) = true := by rfl) (hks : (backToKw pos (keywordEach kws X.env)).filterMap (·.1) = ks := by rfl)
    (hdb : (x == ("__debug__" : Str)) = false := by decide)
    (hpl : ((backTo pos (starEach [] X.env)).any (·.1) || (backToKw pos (keywordEach kws X.env)).any (·.1.isNone)) = false := by rfl) :
    PE X (.Call (.Name x p) [] kws pos) (tKw 0 ks.length sp g E tNil tk) := by
  constructor
  intro pins s σ H Q I h
  refine wpAny_Call_Name_kw (ld_glob I hg hm ?_ hdb)
  refine PySem.W.callWith_KW0 (h₀ := X.base) I.ok.mod.kin hk hall (thn (hkw.run pos pins s σ H _ I h) ?_) hpl
  rintro ws s2 ⟨zs, H2, I2, rz, l1, l2, q2⟩
  refine ⟨I2.kIn, ?_⟩
  rw [hks]
  exact run_g (us := []) F hr hgd (hb.to s2 [] ws I2.kIn rfl (by rw [← rz.length]; exact l2)) (hx σ) I2 (hrel.1 .nil rz) q2
theorem kwM_core {kn : Nat} (har : ∀ xs st, m xs st ≠ .bad → xs.length = ar) (hrel : RelG g) {σ : L2.St} {H : Hp} {Q : VK} (h : T K mg W (kwM m n kn g ms mk) σ H Q) : tKw n kn (SpM K mg ar m) g (WE W) (TL K mg W ms) (TL K mg W mk) σ H Q := by
  obtain ⟨c, rfl, rfl, rc, q⟩ := h
  refine ⟨c, rfl, rfl, rc, (Post.bind (m := ms c.s) q).mono fun xs c1 e1 r1 x1 q1 vs hv => ?_⟩
  refine ⟨c1, e1, rfl, r1, (Post.bind (m := mk c1.s) q1).mono fun zs c2 e2 r2 x2 q2 ws hw => ?_⟩
  have hv2 := x2.repL hv
  by_cases hl : xs.length = n ∧ zs.length = kn
  · rw [decide_eq_true hl] at q2
    refine ⟨by rw [← RepL.length hv2]; exact hl.1, by rw [← RepL.length hw]; exact hl.2, ?_⟩
    replace q2 : Post K mg W c2 (fun d c' => ∀ v, RepV K mg c'.h.ι c'.h.F d v → Q v c'.h.H) (match m (g xs zs) c2.s.st with
      | .ok d st => .ok d { c2.s with st := st }
      | .exc x st => .exc x { c2.s with st := st }
      | .bad => .bad) := q2
    have hl' : (g xs zs).length = ar := har _ c2.s.st fun z => by
      rw [z] at q2
      exact q2
    refine ⟨g xs zs, c2.h, rfl, r2.rc, hrel.2 K mg _ _ hv2 hw, hl', ?_⟩
    show PostF K mg c2.h Q (WE W c.σ) (m (g xs zs) c2.s.st)
    cases e : m (g xs zs) c2.s.st with
    | ok d st =>
      rw [e] at q2
      intro h' v e3 rc' x' hv'
      exact q2 { c2 with h := h' } (by show Mir.S.mk c2.sl h'.st = _; rw [e3]; rfl) rfl (r2.called rc' x') (Ext.called x') v hv'
    | exc z st =>
      rw [e] at q2
      intro h' cv da e3 rc' x' hz
      have e4 : c2.σ = c.σ := e2.trans e1
      rw [← e4]
      exact q2 { c2 with h := h' } cv da (by show Mir.S.mk c2.sl h'.st = _; rw [e3]; rfl) rfl (r2.called rc' x') (Ext.called x') hz
    | bad =>
      rw [e] at q2
      exact q2
  · rw [decide_eq_false hl] at q2
    exact q2.elim
theorem me_callK {kn : Nat} (F : FnG X.prog X.w X.K X.mg X.base k f fd ps (SpM X.K mg ar m)) (hmb : ∀ xs st, m xs st ≠ .bad → xs.length = ar) (hr : Room k X.A) (hgd : X.A.guards = some []) (tk : Takes X W) (hg : Gl X x) (hm : X.mg x = some (.ref f)) (hk : PySem.W.keepIn X.K (.ref f) = true) (hb : KwB X.K fd ps n ks g) (hrel : RelG g)
    (ha : PA X (e :: es) (TL X.K mg W ms)) (hkw : PK X kws (TL X.K mg W mk)) (hall : (backToKw pos (keywordEach kws X.env)).all (·.1.isSome) = true := by rfl) (hks : (backToKw pos (keywordEach kws X.env)).filterMap (·.1) = ks := by rfl) (hkn : ks.length = kn := by rfl)
    (hdb : (x == ("__debug__" : Str)) = false := by decide) (he : starEach (e :: es) X.env = (false, eval e X.env) :: starEach es X.env := by rfl)
    (hpl : ((backTo pos (starEach (e :: es) X.env)).any (·.1) || (backToKw pos (keywordEach kws X.env)).any (·.1.isNone)) = false := by rfl) :
    PE X (.Call (.Name x p) (e :: es) kws pos) (T X.K mg W (kwM m n kn g ms mk)) := by
  subst hkn
  exact PE.imp (pe_callKG F hr hgd hg hm hk hb hrel (fun σ => passAt tk σ) ha hkw hall hks hdb he hpl) fun _ _ _ h => kwM_core hmb hrel h
theorem me_callK0 {kn : Nat} (F : FnG X.prog X.w X.K X.mg X.base k f fd ps (SpM X.K mg ar m)) (hmb : ∀ xs st, m xs st ≠ .bad → xs.length = ar) (hr : Room k X.A) (hgd : X.A.guards = some []) (tk : Takes X W) (hg : Gl X x) (hm : X.mg x = some (.ref f)) (hk : PySem.W.keepIn X.K (.ref f) = true) (hb : KwB X.K fd ps 0 ks g) (hrel : RelG g)
    (hkw : PK X kws (TL X.K mg W mk)) (hall : (backToKw pos (keywordEach kws X.env)).all (·.1.isSome) = true := by rfl) (hks : (backToKw pos (keywordEach kws X.env)).filterMap (·.1) = ks := by rfl) (hkn : ks.length = kn := by rfl)
    (hdb : (x == ("__debug__" : Str)) = false := by decide)
    (hpl : ((backTo pos (starEach [] X.env)).any (·.1) || (backToKw pos (keywordEach kws X.env)).any (·.1.isNone)) = false := by rfl) :
    PE X (.Call (.Name x p) [] kws pos) (T X.K mg W (kwM m 0 kn g (pureM []) mk)) := by
  subst hkn
  refine PE.imp (pe_callKG0 F hr hgd hg hm hk hb hrel (fun σ => passAt tk σ) hkw hall hks hdb hpl) fun σ H Q h => ?_
  have q := kwM_core hmb hrel h
  obtain ⟨c, rfl, rfl, rc, p⟩ := q
  exact Post.now (c := c) p rc [] rfl

/-! ### the law -/
def Sound (l : PySem.W.OpenLaw) (w : World) (K : PySem.W.Frag) (mg : Str → Option Value) (k : Nat) (fa : Addr) (x : Str) (m : MF) : Prop :=
  ∃ fd : FuncData, (∀ (s : Shared) (u : Value), BindsTo s fd ⟨[u], []⟩ [(x, u)]) ∧ ∀ base : Heap, K.In base → base.Ns mainGlobals mg → FnG l.prog w K mg base k fa fd [x] (SpM K mg 1 m)
theorem only_frz {H : Hp} (hO : Only H) {a : Addr} (e : H a ≠ none) : ∃ o xs, H a = some (.frz o (.lst xs)) := by
  rcases hO a with z | z
  · exact absurd z e
  · exact z
theorem ints_rep {K : PySem.W.Frag} {mg : Str → Option Value} {ι : List Addr} {F : Hp} : ∀ ns : List Int, RepL K mg ι F (ns.map D.int) (ns.map V.int)
  | [] => rfl
  | n :: ns => ⟨.int n, ns.map V.int, rfl, rfl, ints_rep ns⟩
/-- what the law's mirror must give -/
theorem spM_true {H : Hp} {a : Addr} {ns : List Int} {m : MF} (hS : SqL K H a (ns.map V.int)) (hm : ∃ st, m [.lst (ns.map D.int)] [] = .ok (.bl true) st) : SpM K mg 1 m [.ref a] H (fun v _ => v = .bl true) fun _ _ _ => False := by
  obtain ⟨st, e⟩ := hm
  refine ⟨[.lst (ns.map D.int)], ⟨[], [], H, H⟩, rfl, ⟨fun _ _ h => h, List.nodup_nil, rfl, fun n a x h => by simp at h, fun a h => by simp at h⟩, ⟨.ref a, [], rfl, ⟨a, _, rfl, hS, ints_rep ns⟩, rfl⟩, rfl, ?_⟩
  rw [e]
  exact fun h' v _ _ _ hv => hv
end
end Mir
/-! M9: from the law's mirror to the row. -/
namespace Mir
open PySem PySem.Spec PyProof.Rows L2
section
variable {P : Program} {w : World} {K : PySem.W.Frag} {mg mb : Str → Option Value} {k : Nat} {fa a : Addr} {fd : FuncData} {x : Str} {sp : Sp} {s1 : Shared} {vs : List Value} {ns : List Int}
/-- the call, over an abstract heap in which at most the script is told -/
theorem law_over {H : Hp} (kin : K.In s1.heap) (hns : s1.heap.Ns mainGlobals mg) (hb : s1.heap.Ns builtinsNs mb) (hbb : ∀ x : Str, x ≠ "__name__" → mb x = bootBuiltins x) (hlim : s1.heap.NoLimit) (hg : s1.gens = #[])
    (ha : s1.heap.get? a = some { cls := .type "list", data := .seq vs.toArray }) (hr : Room k callerA)
    (F : ∀ base : Heap, K.In base → base.Ns mainGlobals mg → FnG P w K mg base k fa fd [x] sp) (hbind : ∀ (s : Shared) (u : Value), BindsTo s fd ⟨[u], []⟩ [(x, u)])
    (hO : Only H) (hok : HOk P w H s1.heap) (hA : ∀ b, H b ≠ none → b = a) (hK : H a ≠ none → K.lookup a = none) (hsp : sp [.ref a] H (fun v _ => v = .bl true) fun _ _ _ => False) :
    codeAny (model P w) callerA (.call (.ref fa) ⟨[.ref a], []⟩) (fun r s' => r = .ok (.ret (.bool true)) ∧ OldK s1.heap s'.heap ∧ s'.os = s1.os ∧ AllBare s'.gens) s1 := by
  have told : ∀ {b : Addr} {u : HO}, H b = some u → b = a := by
    intro b u q
    exact hA b (by rw [q]; exact fun z => nomatch z)
  have dictNo : ∀ {b : Addr} {o : Obj} {es : Array DictEntry} {ep : Nat}, s1.heap.get? b = some o → o.data = .dict es ep → H b = none := by
    intro b o es ep q d
    cases z : H b with
    | none => rfl
    | some u =>
      rw [told z, ha] at q
      cases q
      have d' : Data.seq vs.toArray _ = Data.dict es ep := d
      cases d'
  have nsB : ∀ {b : Addr} {m : Str → Option Value}, s1.heap.Ns b m → (hidT s1.heap H).Ns b m := by
    rintro b m ⟨o, es, ep, q, d, r⟩
    exact ⟨o, es, ep, hidT_get q (dictNo q d), d, r⟩
  have kinB : K.In (hidT s1.heap H) := by
    intro b o q
    refine hidT_get (kin b o q) ?_
    cases z : H b with
    | none => rfl
    | some u =>
      have e := told z
      subst e
      rw [hK (by rw [z]; exact fun y => nomatch y)] at q
      cases q
  have limB : (hidT s1.heap H).NoLimit := by
    obtain ⟨mc, h1, h2⟩ := hlim
    exact ⟨mc, nsB h1, h2⟩
  have modB : Mod K mg (hidT s1.heap H) := ⟨kinB, nsB hns, ⟨mb, nsB hb, hbb⟩, limB⟩
  have e0 : Env0 P w K mg (hidT s1.heap H) callerA [] s1 H := by
    refine ⟨rfl, modB, fun b o q => of_hidT q, Nat.le_of_eq (hidT_size _ _), trivial, fun b q => ?_, hok, .of_eq hg⟩
    exact absurd (show b ∈ ([] : List Addr) from q) (by simp)
  have run := (F _ kinB (nsB hns)).run callerA [] s1 H ⟨[.ref a], []⟩ [.ref a] [.ref a] (fun v _ => v = .bl true) (fun _ _ _ => False) hr rfl e0 (hbind s1 (.ref a)) (.cons rfl .nil) hsp
  refine codeAny_mono run ?_
  intro res s' got
  cases res with
  | error er =>
    obtain ⟨_, _, _, _, _, _, _, _, _, _, _, _, z⟩ := got
    exact z.elim
  | ok fl =>
    cases fl with
    | next => exact got.elim
    | brk => exact got.elim
    | cont => exact got.elim
    | ret u =>
      obtain ⟨v, H', os, bare, un, hok', rv, q⟩ := got
      have q' : v = .bl true := q
      subst q'
      obtain rfl : u = Value.bool true := rv
      refine ⟨rfl, OldK.of_keep ?_, os, bare⟩
      intro b o e
      cases z : H b with
      | none => exact un.keep b o e z (fun y => absurd (show b ∈ ([] : List Addr) from y) (by simp)) (by simp)
      | some u =>
        obtain ⟨ob, xs, z2⟩ := only_frz hO (a := b) (by rw [z]; exact fun y => nomatch y)
        have z3 := un.frzs b ob _ z2
        obtain ⟨e1, _⟩ := hok b _ z2
        obtain ⟨e2, _⟩ := hok' b _ z3
        rw [e] at e1
        cases e1
        exact e2
theorem law_run (kin : K.In s1.heap) (hns : s1.heap.Ns mainGlobals mg) (hb : s1.heap.Ns builtinsNs mb) (hbb : ∀ x : Str, x ≠ "__name__" → mb x = bootBuiltins x) (hlim : s1.heap.NoLimit) (hg : s1.gens = #[])
    (ha : s1.heap.get? a = some { cls := .type "list", data := .seq vs.toArray }) (hi : IntsAre vs ns) (hl : ns.length ≤ sizeLine) (hr : Room k callerA)
    (F : ∀ base : Heap, K.In base → base.Ns mainGlobals mg → FnG P w K mg base k fa fd [x] sp) (hbind : ∀ (s : Shared) (u : Value), BindsTo s fd ⟨[u], []⟩ [(x, u)])
    (hsp : ∀ H : Hp, Only H → SqL K H a (ns.map V.int) → sp [.ref a] H (fun v _ => v = .bl true) fun _ _ _ => False) :
    codeAny (model P w) callerA (.call (.ref fa) ⟨[.ref a], []⟩) (fun r s' => r = .ok (.ret (.bool true)) ∧ OldK s1.heap s'.heap ∧ s'.os = s1.os ∧ AllBare s'.gens) s1 := by
  have rv := vals_ints hi
  have lenV := hi.length
  cases hk : K.lookup a with
  | some o =>
    have e := kin a o hk
    rw [ha] at e
    cases e
    have sq : SqL K (fun _ => none) a (ns.map V.int) := .inr ⟨_, vs.toArray, _, hk, rfl, rfl, rfl, by rw [List.size_toArray, lenV]; exact hl, by simpa using rv⟩
    have only : Only (fun _ => none) := fun _ => .inl rfl
    refine law_over kin hns hb hbb hlim hg ha hr F hbind only ?_ (fun b z => absurd rfl z) (fun z => absurd rfl z) (hsp _ only sq)
    intro b u z
    cases (show (none : Option HO) = some u from z)
  | none =>
    have only : Only (fun b => if b = a then some (.frz { cls := .type "list", data := .seq vs.toArray } (.lst (ns.map V.int))) else none) := by
      intro b
      by_cases e : b = a
      · exact .inr ⟨_, _, if_pos e⟩
      · exact .inl (if_neg e)
    refine law_over kin hns hb hbb hlim hg ha hr F hbind only ?_ ?_ (fun _ => hk) (hsp _ only (.inl (.inr ⟨_, if_pos rfl⟩)))
    · intro b u z
      by_cases e : b = a
      · have z2 := (if_pos e).symm.trans z
        cases z2
        subst e
        exact ⟨ha, by rw [List.length_map]; exact hl, vs, _, rv, ha⟩
      · have z2 := (if_neg e).symm.trans z
        cases z2
    · intro b z
      by_cases e : b = a
      · exact e
      · exact absurd (if_neg e) z
end
/-- the goal that k_head leaves -/
theorem walk_m {l : PySem.W.OpenLaw} {n k : Nat} {q : Program} {loose : List Str} {XP : (Str → Option Value) → Heap → Prop} {YP : World → Heap → Prop} {d : DefRec} {K : Params → PySem.W.Frag} {x : Str} {m : MF}
    (hn : l.most = some n) (hn2 : n ≤ sizeLine) (hdf : d.params.defaults = []) (hr : Room k callerA)
    (hY : ∀ (w : World) (h : Heap), YP w h → (K w.params).In h)
    (F : ∀ (w : World) (mg : Str → Option Value) (fa : Addr) (h : Heap), (K w.params).In h → h.Ns mainGlobals mg → mg d.name = some (.ref fa) → Sound l w (K w.params) mg k fa x m)
    (hm : ∀ ns : List Int, ns.length ≤ n → ∃ st, m [.lst (ns.map D.int)] [] = .ok (.bl true) st) :
    PySem.W.WalkO q loose XP YP l.row.toRowW d [] (fun f vs => PySem.call f vs) := by
  refine Att.attach_call hn hdf ?_
  intro w s0 s1 mg mb fa o pm cd doc a vs ns G Y ho hd hcd hmg hobj hints hlen hg
  have kin := hY w _ Y
  obtain ⟨fd, hb, hF⟩ := F w mg fa _ kin G.T.g hmg
  exact law_run kin G.T.g G.T.b G.T.builtins G.T.nolimit hg hobj hints (Nat.le_trans hlen hn2) hr hF hb fun H hO hS => spM_true hS (hm ns hlen)
end Mir
/-! M10: built-ins and operators on data. -/
namespace Mir
open PySem PySem.Spec PyProof.Rows L2
section
variable {K : PySem.W.Frag} {mg : Str → Option Value} {W : WX} {X : Cx} {c c1 : Cfg}
/-! ### helpers: one, two arguments -/
theorem repL1 {ι : List Addr} {F : Hp} {d : D} {vs : List V} (h : RepL K mg ι F [d] vs) : ∃ v, vs = [v] ∧ RepV K mg ι F d v := by
  obtain ⟨v, w, rfl, q, l⟩ := h
  obtain rfl : w = [] := l
  exact ⟨v, rfl, q⟩
theorem repL2 {ι : List Addr} {F : Hp} {d e : D} {vs : List V} (h : RepL K mg ι F [d, e] vs) : ∃ v w, vs = [v, w] ∧ RepV K mg ι F d v ∧ RepV K mg ι F e w := by
  obtain ⟨v, w, rfl, q, l⟩ := h
  obtain ⟨u, rfl, r⟩ := repL1 l
  exact ⟨v, u, rfl, q, r⟩
/-! ### len -/
def lenD (st : List Cell) : List D → Option D
  | [x] => match x with
    | .str y => if y.length ≤ sizeLine then some (.int y.length) else none
    | .tup xs => some (.int xs.length)
    | x => (lstOf st x).map fun xs => D.int xs.length
  | _ => none
theorem cf_len : CallF X mg (.builtin "len") lenD := by
  refine ⟨_, call_len, fun c xs d vs Q rc hv e k => ?_⟩
  match xs, e, hv with
  | [x], e, hv =>
    obtain ⟨v, e1, hv1⟩ := repL1 hv
    subst e1
    replace hv := hv1
    have L : ∀ ys, lstOf c.h.st x = some ys → d = .int ys.length → ∃ y n, [v] = [y] ∧ LenV X.K y c.h.H n ∧ Q (.int n) c.h.H := fun ys h1 h2 => by
      obtain ⟨a, ws, rfl, q, l⟩ := lstOf_rep rc.rc h1 hv
      subst h2
      exact ⟨_, ws.length, rfl, .inl ⟨ws, q, rfl⟩, by rw [← RepL.length l]; exact k c rfl rfl rc Ext0.refl _ rfl⟩
    cases x with
    | str y =>
      obtain rfl : v = .str y := hv
      replace e : (if y.length ≤ sizeLine then some (D.int y.length) else none) = some d := e
      by_cases hy : y.length ≤ sizeLine
      · rw [if_pos hy] at e
        cases e
        exact ⟨_, _, rfl, ⟨hy, rfl⟩, k c rfl rfl rc Ext0.refl _ rfl⟩
      · rw [if_neg hy] at e
        cases e
    | tup ys =>
      cases e
      obtain ⟨a, ws, rfl, q, l⟩ := tupOf_rep rc.rc (ds := ys) rfl hv
      exact ⟨_, ws.length, rfl, .inr ⟨ws, q, rfl⟩, by rw [← RepL.length l]; exact k c rfl rfl rc Ext0.refl _ rfl⟩
    | lst ys =>
      cases e
      exact L ys rfl rfl
    | ref n =>
      replace e : (lstOf c.h.st (.ref n)).map (fun xs => D.int xs.length) = some d := e
      cases h : lstOf c.h.st (.ref n) with
      | none =>
        rw [h] at e
        cases e
      | some ys =>
        rw [h] at e
        cases e
        exact L ys h rfl
    | _ => cases e
  | [], e, hv => cases e
  | _ :: _ :: _, e, hv => cases e
/-! ### int(..), str(int), max, min of two -/
def intD (_ : List Cell) : List D → Option D
  | [.int i] => some (.int i)
  | [.bl b] => some (.int (if b then 1 else 0))
  | _ => none
theorem cf_int : CallF X mg (.type "int") intD := by
  refine ⟨_, call_int1, fun c xs d vs Q rc hv e k => ?_⟩
  unfold intD at e
  split at e
  · rename_i i
    cases e
    obtain ⟨v, e1, hv1⟩ := repL1 hv
    subst e1
    replace hv := hv1
    obtain rfl : v = .int i := hv
    exact .inl ⟨i, rfl, k c rfl rfl rc Ext0.refl _ rfl⟩
  · rename_i b
    cases e
    obtain ⟨v, e1, hv1⟩ := repL1 hv
    subst e1
    replace hv := hv1
    obtain rfl : v = .bl b := hv
    exact .inr ⟨b, rfl, k c rfl rfl rc Ext0.refl _ rfl⟩
  · cases e
def strD (_ : List Cell) : List D → Option D
  | [.int i] => if i.natAbs.log2 < 1920 then some (.str (toString i)) else none
  | _ => none
theorem cf_str : CallF X mg (.type "str") strD := by
  refine ⟨_, call_str_int, fun c xs d vs Q rc hv e k => ?_⟩
  unfold strD at e
  split at e
  · rename_i i
    by_cases hi : i.natAbs.log2 < 1920
    · rw [if_pos hi] at e
      cases e
      obtain ⟨v, e1, hv1⟩ := repL1 hv
      subst e1
      obtain rfl : v = .int i := hv1
      exact ⟨i, rfl, hi, k c rfl rfl rc Ext0.refl _ rfl⟩
    · rw [if_neg hi] at e
      cases e
  · cases e
def max2D (_ : List Cell) : List D → Option D
  | [.int i, .int j] => some (.int (if j > i then j else i))
  | _ => none
def min2D (_ : List Cell) : List D → Option D
  | [.int i, .int j] => some (.int (if j < i then j else i))
  | _ => none
theorem cf_max2 (hc : X.calm = true) : CallF X mg (.builtin "max") max2D := by
  refine ⟨_, call_max2 hc, fun c xs d vs Q rc hv e k => ?_⟩
  unfold max2D at e
  split at e
  · rename_i i j
    cases e
    obtain ⟨v, w, rfl, hv, hw⟩ := repL2 hv
    obtain rfl : v = .int i := hv
    obtain rfl : w = .int j := hw
    exact ⟨i, j, rfl, k c rfl rfl rc Ext0.refl _ rfl⟩
  · cases e
theorem cf_min2 (hc : X.calm = true) : CallF X mg (.builtin "min") min2D := by
  refine ⟨_, call_min2 hc, fun c xs d vs Q rc hv e k => ?_⟩
  unfold min2D at e
  split at e
  · rename_i i j
    cases e
    obtain ⟨v, w, rfl, hv, hw⟩ := repL2 hv
    obtain rfl : v = .int i := hv
    obtain rfl : w = .int j := hw
    exact ⟨i, j, rfl, k c rfl rfl rc Ext0.refl _ rfl⟩
  · cases e
def rng2D (_ : List Cell) : List D → Option D
  | [.int i, .int j] => some (.rng i j)
  | _ => none
theorem cf_rng2 : CallF X mg (.type "range") rng2D := by
  refine ⟨_, cr_range2, fun c xs d vs Q rc hv e k => ?_⟩
  unfold rng2D at e
  split at e
  · rename_i i j
    cases e
    obtain ⟨v, w, rfl, hv, hw⟩ := repL2 hv
    obtain rfl : v = .int i := hv
    obtain rfl : w = .int j := hw
    refine ⟨i, j, rfl, fun p hp => ?_⟩
    exact k (c.frz p (.rng i j)) rfl rfl (rc.frz hp) (Ext.frz rc hp) (.ref p) ⟨p, rfl, upd_same⟩
  · cases e
/-- tuple(list), tuple(tuple) -/
def tupleD (st : List Cell) : List D → Option D
  | [.tup xs] => some (.tup xs)
  | [x] => (lstOf st x).map D.tup
  | _ => none
theorem cf_tuple : CallF X mg (.type "tuple") tupleD := by
  refine ⟨_, call_tuple_of, fun c xs d vs Q rc hv e k => ?_⟩
  unfold tupleD at e
  split at e
  · rename_i ys
    cases e
    obtain ⟨v, e1, hv1⟩ := repL1 hv
    subst e1
    replace hv := hv1
    obtain ⟨a, ws, rfl, q, l⟩ := tupOf_rep rc.rc (ds := ys) rfl hv
    exact ⟨a, ws, rfl, .inr ⟨q, k c rfl rfl rc Ext0.refl _ hv⟩⟩
  · rename_i x _
    obtain ⟨v, e1, hv1⟩ := repL1 hv
    subst e1
    replace hv := hv1
    cases h : lstOf c.h.st x with
    | none =>
      rw [h] at e
      cases e
    | some ys =>
      rw [h] at e
      cases e
      obtain ⟨a, ws, rfl, q, l⟩ := lstOf_rep rc.rc h hv
      exact ⟨a, ws, rfl, .inl ⟨q, fun p hp => k (c.frz p (.tup ws)) rfl rfl (rc.frz hp) (Ext.frz rc hp) (.ref p) (frz_tup (rc.rc.fnone hp) l)⟩⟩
  · cases e
/-! ### repr -/
def reprD (st : List Cell) : List D → Option D
  | [x] => match py st 20 x with
    | some p => if p.showable = true ∧ p.shown.length ≤ sizeLine then some (.str p.shown) else none
    | none => none
  | _ => none
def noDct : PyData → Bool
  | .dict _ => false
  | _ => true
theorem hasDict_canLay : ∀ d : PyData, d.canLay0 = true → d.hasDict = false := PyData.hasDict_of_canLay
def rReprD (K : PySem.W.Frag) : List V → Hp → VK → Prop := fun xs H Q => ∃ x p, xs = [x] ∧ Dp K H x p ∧ p.canLay0 = true ∧ p.depth ≤ 40 ∧ p.showable = true ∧ p.shown.length ≤ sizeLine ∧ Q (.str p.shown) H
theorem call_reprD {k : Nat} (hr : Room k X.A) (hg : X.A.guards = some []) : CallR X (.builtin "repr") (rReprD X.K) := by
  intro pins s σ H xs us Q I r h
  obtain ⟨x, p, rfl, hp, hl, hdp, hs, hz, q⟩ := h
  obtain ⟨u, rfl, rx⟩ := vals1 r
  have hun := hr.units
  have scal : ∀ {E : Value → Shared → Prop} {s : Shared}, True := trivial
  obtain ⟨as, rd⟩ := Dp.reads I p x u hp rx
  have hsm : p.hasDict = true → sysModules ∉ as := PyData.noDict_hsm (PyData.hasDict_of_canLay p hl)
  cases hp with
  | non =>
    cases rx
    refine PySem.P.repr_of_none ⟨.str _, H, I.tok _, ⟨_, rfl⟩, ?_⟩
    simpa only [PyData.shown] using q
  | bl b =>
    cases rx
    refine PySem.P.repr_of_bool ⟨.str _, H, I.tok _, ⟨_, rfl⟩, ?_⟩
    simpa only [PyData.shown] using q
  | int i =>
    obtain ⟨t, rfl⟩ := rx
    have hs' : i.natAbs.log2 < 1920 := by simpa [PyData.showable] using hs
    refine PySem.P.repr_of_int hs' ⟨.str _, H, I.tok _, ⟨_, rfl⟩, ?_⟩
    simpa only [PyData.shown] using q
  | str y =>
    obtain ⟨t, rfl⟩ := rx
    refine PySem.P.repr_of_str ⟨.str _, H, I.tok _, ⟨_, rfl⟩, ?_⟩ (by simpa only [PyData.shown] using hz)
    simpa only [PyData.shown] using q
  | lst hq ha =>
    cases rx
    exact repr_of_reads' rd hs hsm hg (by omega) (fun _ _ e => e) (fun h' u tk hk => ⟨.str _, H, I.kept (t' := tk) hk, ⟨u, rfl⟩, q⟩) hz
  | tup hq ha =>
    cases rx
    exact repr_of_reads' rd hs hsm hg (by omega) (fun _ _ e => e) (fun h' u tk hk => ⟨.str _, H, I.kept (t' := tk) hk, ⟨u, rfl⟩, q⟩) hz
theorem cf_repr {k : Nat} (hr : Room k X.A) (hg : X.A.guards = some []) : CallF X mg (.builtin "repr") reprD := by
  refine ⟨_, call_reprD hr hg, fun c xs d vs Q rc hv e kk => ?_⟩
  unfold reprD at e
  split at e
  · rename_i x
    obtain ⟨v, e1, hv1⟩ := repL1 hv
    subst e1
    replace hv := hv1
    cases h : py c.h.st 20 x with
    | none =>
      rw [h] at e
      cases e
    | some p =>
      rw [h] at e
      simp only at e
      by_cases hz : p.showable = true ∧ p.shown.length ≤ sizeLine
      · rw [if_pos hz] at e
        cases e
        obtain ⟨h1, h2⟩ := py_ok 20 x p h
        exact ⟨v, p, rfl, py_dp rc.rc _ _ _ _ hv h, h1, by omega, hz.1, hz.2, kk c rfl rfl rc Ext0.refl _ rfl⟩
      · rw [if_neg hz] at e
        cases e
  · cases e
end
end Mir
/-! M11: operators on data: +, *, in, is, unary minus. -/
namespace Mir
open PySem PySem.Spec PyProof.Rows L2
section
variable {K : PySem.W.Frag} {mg : Str → Option Value} {W : WX} {X : Cx} {c c1 : Cfg}

/-! ### list + list, list * int of any list that is read -/
def rCatL (K : PySem.W.Frag) : R2 := fun x y H Q => ∃ l b xs zs, x = .ref l ∧ y = .ref b ∧ SqL K H l xs ∧ SqL K H b zs ∧ xs.length + zs.length ≤ sizeLine ∧ ∀ p, H p = none → Q (.ref p) (upd H p (.lst (xs ++ zs)))
theorem op_catL : OpR X (binaryOp .Add) (rCatL X.K) := by
  intro pins s σ H x y v u Q I hx hy h
  obtain ⟨l, b, xs, zs, rfl, rfl, h1, h2, hz, q⟩ := h
  obtain rfl : v = Value.ref l := hx
  obtain rfl : u = Value.ref b := hy
  obtain ⟨us, v1, ⟨⟨k1, d1, t1, s1⟩, n1, g1, c1, e1, f1⟩, z1⟩ := I.list h1
  obtain ⟨ws, v2, ⟨⟨k2, d2, t2, s2⟩, n2, g2, c2, e2, f2⟩, z2⟩ := I.list h2
  dsimp only at c1 f1 c2 f2
  subst c1 f1 c2 f2
  have len1 := v1.length
  have len2 := v2.length
  refine concat_meets ⟨_, g1, rfl⟩ ⟨_, g2, rfl⟩ noFill_list_add seq_list_add PySem.F.slot_list_add PySem.F.entry_list_add (PySem.F.args_list_add_2 _ _)
    (list_addW l b us.toArray ws.toArray n1 n2 d1 d2 s1 s2 (by rw [List.size_toArray, List.size_toArray]; omega)) ⟨g1, g2, ?_⟩
  rw [show us.toArray ++ ws.toArray = (us ++ ws).toArray by simp]
  refine ⟨.ref s.heap.objs.size, upd H s.heap.objs.size (.lst (xs ++ zs)), ?_, rfl, q _ I.fresh⟩
  exact I.lnew (t' := s.toks) (v1.append v2) (by rw [List.length_append]; exact hz)
theorem rmulW (k : Int) (t : Tok) (l : Addr) (items : Array Value) (n : Nat) (d : Option Addr) (sl : Array (Option Value)) :
    Meets (Builtin.«int.__rmul__» ⟨[.int k t, .ref l], []⟩) (fun _ R s => s.heap.get? l = some { cls := .type "list", dict := d, data := .seq items n, slots := sl } ∧ R (.ok (.ret Value.notImplemented)) s) :=
  .of_wp fun prog w A R s h => by
    obtain ⟨hp, g, dd, tk, os⟩ := s
    obtain ⟨hl, h⟩ := h
    wp_walk
    exact ⟨_, rfl, h⟩
theorem lmulW (l : Addr) (items : Array Value) (n : Nat) (d : Option Addr) (sl : Array (Option Value)) (k : Int) (t : Tok) (fits : ¬(!Builtin.List.listFitsIndex k) = true)
    (cap : ¬items.size * k.toNat > (2 ^ 63 - 1) / 8) (long : ¬Builtin.List.listTooLong (items.size * k.toNat) = true) :
    Meets (Builtin.«list.__mul__» ⟨[.ref l, .int k t], []⟩) (fun _ R s => s.heap.get? l = some { cls := .type "list", dict := d, data := .seq items n, slots := sl } ∧
      R (.ok (.ret (Value.ref s.heap.objs.size))) { s with heap := s.heap.push { cls := Value.type "list", data := Data.seq (List.foldl (fun a b => a ++ b) #[] (List.replicate (if items.isEmpty = true then 0 else k.toNat) items)) }, toks := s.toks }) :=
  .of_wp fun prog w A R s h => by
    obtain ⟨hp, g, dd, tk, os⟩ := s
    obtain ⟨hl, h⟩ := h
    have size := AutoListH.joined_fits long
    wp_walk
    refine wpAny_ite_false (decide_eq_false (Nat.not_lt.mpr size)) ?_
    wp_walk
    exact ⟨_, rfl, h⟩
theorem flat_rep (us : List Value) (m : Nat) : List.foldl (fun a b => a ++ b) #[] (List.replicate (if us.toArray.isEmpty = true then 0 else m) us.toArray) = (List.replicate m us).flatten.toArray := by
  have go : ∀ j : Nat, List.foldl (fun a b => a ++ b) #[] (List.replicate j us.toArray) = (List.replicate j us).flatten.toArray := fun j => by
    have q := foldl_rep us j []
    rwa [List.nil_append] at q
  rw [go]
  cases us with
  | nil => simp
  | cons u us => rw [if_neg (by simp)]
def rRepL (K : PySem.W.Frag) : R2 := fun x y H Q => ∃ l k xs, x = .ref l ∧ y = .int k ∧ SqL K H l xs ∧ -(2 ^ 63) ≤ k ∧ k < 2 ^ 63 ∧ xs.length * k.toNat ≤ sizeLine ∧
  ∀ p, H p = none → Q (.ref p) (upd H p (.lst (List.replicate k.toNat xs).flatten))
theorem op_repL : OpR X (binaryOp .Mult) (rRepL X.K) := by
  intro pins s σ H x y v u Q I hx hy h
  obtain ⟨l, k, xs, rfl, rfl, h1, lo, hi, hz, q⟩ := h
  obtain rfl : v = Value.ref l := hx
  obtain ⟨t, rfl⟩ := hy
  obtain ⟨us, v1, ⟨⟨k1, d1, t1, s1⟩, n1, g1, c1, e1, f1⟩, z1⟩ := I.list h1
  dsimp only at c1 f1
  subst c1 f1
  have len1 := v1.length
  have fit : us.toArray.size * k.toNat ≤ sizeLine := by rw [List.size_toArray, ← len1]; exact hz
  have line : (sizeLine : Nat) ≤ (2 ^ 63 - 1) / 8 := by decide
  refine wpAny_binaryOp_repeat_ref (T := "list") (U := "int") (by decide) ⟨_, g1, rfl⟩ (fun s' => typeIs_int s' k t) noFill_list_mul F.fills_int_mul F.slot_int_rmul repeat_list F.slot_int_index.lookup
    (call_meets F.slot_int_rmul (typeIs_int s k t) F.entry_int_rmul (F.args_int_rmul_2 _ _) (rmulW k t l us.toArray n1 d1 s1)
      ⟨g1, rfl, ⟨_, g1, rfl⟩, call_meets F.slot_list_mul ⟨_, g1, rfl⟩ F.entry_list_mul (F.args_list_mul_2 _ _)
        (lmulW l us.toArray n1 d1 s1 k t (by rw [fitsIndex_both lo hi]; exact Bool.false_ne_true) (by omega) (by rw [notLongL fit]; exact Bool.false_ne_true)) ⟨g1, ?_⟩⟩)
  rw [flat_rep]
  exact ⟨.ref _, _, I.lnew (t' := s.toks) (v1.rep k.toNat) (by rw [PyProof.Rows.lm_len_rep_flat, Nat.mul_comm]; exact hz), rfl, q _ I.fresh⟩

/-! ### + -/
def addD (st : List Cell) (x y : D) : Option D := match x, y with
  | .int i, .int j => some (.int (i + j))
  | .str a, .str b => if a.length + b.length ≤ sizeLine then some (.str (a ++ b)) else none
  | .tup a, .tup b => if a.length + b.length ≤ sizeLine then some (.tup (a ++ b)) else none
  | x, y => match lstOf st x, lstOf st y with
    | some a, some b => if a.length + b.length ≤ sizeLine then some (.lst (a ++ b)) else none
    | _, _ => none
theorem addD_lst {st : List Cell} {x y d : D} (h : (match lstOf st x, lstOf st y with
    | some a, some b => if a.length + b.length ≤ sizeLine then some (D.lst (a ++ b)) else none
    | _, _ => none) = some d) : ∃ a b, lstOf st x = some a ∧ lstOf st y = some b ∧ a.length + b.length ≤ sizeLine ∧ d = .lst (a ++ b) := by
  cases hx : lstOf st x with
  | none =>
    rw [hx] at h
    cases h
  | some a =>
    cases hy : lstOf st y with
    | none =>
      rw [hx, hy] at h
      cases h
    | some b =>
      rw [hx, hy] at h
      by_cases hz : a.length + b.length ≤ sizeLine
      · replace h : (if a.length + b.length ≤ sizeLine then some (D.lst (a ++ b)) else none) = some d := h
        rw [if_pos hz] at h
        cases h
        exact ⟨a, b, rfl, rfl, hz, rfl⟩
      · replace h : (if a.length + b.length ≤ sizeLine then some (D.lst (a ++ b)) else none) = some d := h
        rw [if_neg hz] at h
        cases h
inductive AddIs (st : List Cell) : D → D → D → Prop
  | int (i j : Int) : AddIs st (.int i) (.int j) (.int (i + j))
  | str (a b : Str) (h : a.length + b.length ≤ sizeLine) : AddIs st (.str a) (.str b) (.str (a ++ b))
  | tup (a b : List D) (h : a.length + b.length ≤ sizeLine) : AddIs st (.tup a) (.tup b) (.tup (a ++ b))
  | lst {x y : D} {a b : List D} (hx : lstOf st x = some a) (hy : lstOf st y = some b) (h : a.length + b.length ≤ sizeLine) : AddIs st x y (.lst (a ++ b))
theorem addD_cases {st : List Cell} {x y d : D} (h : addD st x y = some d) : AddIs st x y d := by
  unfold addD at h
  split at h
  · cases h
    exact .int _ _
  · rename_i a b
    by_cases hz : a.length + b.length ≤ sizeLine
    · rw [if_pos hz] at h
      cases h
      exact .str _ _ hz
    · rw [if_neg hz] at h
      cases h
  · rename_i a b
    by_cases hz : a.length + b.length ≤ sizeLine
    · rw [if_pos hz] at h
      cases h
      exact .tup _ _ hz
    · rw [if_neg hz] at h
      cases h
  · obtain ⟨a, b, h1, h2, h3, rfl⟩ := addD_lst h
    exact .lst h1 h2 h3
theorem OpR.or4 {g : Value → Value → Sem Value} {r1 r2 r3 r4 : R2} (h1 : OpR X g r1) (h2 : OpR X g r2) (h3 : OpR X g r3) (h4 : OpR X g r4) : OpR X g (fun x y H Q => r1 x y H Q ∨ r2 x y H Q ∨ r3 x y H Q ∨ r4 x y H Q) := by
  intro pins s σ H x y v u Q I rx ry h
  rcases h with h | h | h | h
  · exact h1 pins s σ H x y v u Q I rx ry h
  · exact h2 pins s σ H x y v u Q I rx ry h
  · exact h3 pins s σ H x y v u Q I rx ry h
  · exact h4 pins s σ H x y v u Q I rx ry h
theorem opf_add : OpF X mg (binaryOp .Add) addD := by
  refine ⟨_, OpR.or4 op_add op_add_str op_catA op_catL, fun c x y d v w Q rc hv hw e k => ?_⟩
  cases addD_cases e with
  | int i j =>
    obtain rfl : v = .int i := hv
    obtain rfl : w = .int j := hw
    exact .inl ⟨i, j, rfl, rfl, k c rfl rfl rc Ext0.refl _ rfl⟩
  | str a b h =>
    obtain rfl : v = .str a := hv
    obtain rfl : w = .str b := hw
    exact .inr (.inl ⟨a, b, rfl, rfl, h, k c rfl rfl rc Ext0.refl _ rfl⟩)
  | tup a b h =>
    obtain ⟨p, vs, rfl, q1, l1⟩ := hv
    obtain ⟨p2, ws, rfl, q2, l2⟩ := hw
    have e1 := RepL.length l1
    have e2 := RepL.length l2
    refine .inr (.inr (.inl ⟨p, p2, vs, ws, rfl, rfl, sqT_mono rc.rc.fr q1, sqT_mono rc.rc.fr q2, by omega, fun z => ?_, fun _ z => ?_, fun _ _ r hr => ?_⟩))
    · subst z
      have za : a = [] := List.eq_nil_of_length_eq_zero e1
      subst za
      exact k c rfl rfl rc Ext0.refl _ ⟨p2, ws, rfl, q2, l2⟩
    · subst z
      have zb : b = [] := List.eq_nil_of_length_eq_zero e2
      subst zb
      rw [List.append_nil] at k
      exact k c rfl rfl rc Ext0.refl _ ⟨p, vs, rfl, q1, l1⟩
    · exact k (c.frz r (.tup (vs ++ ws))) rfl rfl (rc.frz hr) (Ext.frz rc hr) (.ref r) (frz_tup (rc.rc.fnone hr) (l1.append l2))
  | @lst x y a b h1 h2 h =>
    obtain ⟨p, vs, rfl, q1, l1⟩ := lstOf_rep rc.rc h1 hv
    obtain ⟨p2, ws, rfl, q2, l2⟩ := lstOf_rep rc.rc h2 hw
    have e1 := RepL.length l1
    have e2 := RepL.length l2
    refine .inr (.inr (.inr ⟨p, p2, vs, ws, rfl, rfl, q1, q2, by omega, fun r hr => ?_⟩))
    exact k (c.frz r (.lst (vs ++ ws))) rfl rfl (rc.frz hr) (Ext.frz rc hr) (.ref r) (frz_lst (rc.rc.fnone hr) (l1.append l2))

/-! ### * -/
/-- a text times an int -/
def strRep (x : Str) (n : Nat) : Str := ⟨(List.replicate n x.cps).foldl (· ++ ·) #[]⟩
def mulD (st : List Cell) (x y : D) : Option D := match x, y with
  | .int i, .int j => iMul i j
  | .str a, .int k => if -(2 ^ 63) ≤ k ∧ k < 2 ^ 63 ∧ a.length * k.toNat ≤ sizeLine then some (.str (strRep a k.toNat)) else none
  | x, .int k => (match lstOf st x with
    | some a => if -(2 ^ 63) ≤ k ∧ k < 2 ^ 63 ∧ a.length * k.toNat ≤ sizeLine then some (.lst (List.replicate k.toNat a).flatten) else none
    | none => none)
  | _, _ => none
inductive MulIs (st : List Cell) : D → D → D → Prop
  | int (i j : Int) (h : i.natAbs.log2 + j.natAbs.log2 < 1000000) : MulIs st (.int i) (.int j) (.int (i * j))
  | str (a : Str) (k : Int) (h : -(2 ^ 63) ≤ k ∧ k < 2 ^ 63 ∧ a.length * k.toNat ≤ sizeLine) : MulIs st (.str a) (.int k) (.str (strRep a k.toNat))
  | lst {x : D} {a : List D} (k : Int) (hx : lstOf st x = some a) (h : -(2 ^ 63) ≤ k ∧ k < 2 ^ 63 ∧ a.length * k.toNat ≤ sizeLine) : MulIs st x (.int k) (.lst (List.replicate k.toNat a).flatten)
theorem mulD_cases {st : List Cell} {x y d : D} (h : mulD st x y = some d) : MulIs st x y d := by
  unfold mulD at h
  split at h
  · rename_i i j
    unfold iMul at h
    by_cases hz : i.natAbs.log2 + j.natAbs.log2 < 1000000
    · rw [if_pos hz] at h
      cases h
      exact .int _ _ hz
    · rw [if_neg hz] at h
      cases h
  · rename_i a k
    by_cases hz : -(2 ^ 63) ≤ k ∧ k < 2 ^ 63 ∧ a.length * k.toNat ≤ sizeLine
    · rw [if_pos hz] at h
      cases h
      exact .str _ _ hz
    · rw [if_neg hz] at h
      cases h
  · rename_i k _ _
    split at h
    · rename_i a ha
      by_cases hz : -(2 ^ 63) ≤ k ∧ k < 2 ^ 63 ∧ a.length * k.toNat ≤ sizeLine
      · rw [if_pos hz] at h
        cases h
        exact .lst _ ha hz
      · rw [if_neg hz] at h
        cases h
    · cases h
  · cases h
def rRepS : R2 := fun x y H Q => ∃ a k, x = .str a ∧ y = .int k ∧ -(2 ^ 63) ≤ k ∧ k < 2 ^ 63 ∧ a.length * k.toNat ≤ sizeLine ∧ Q (.str (strRep a k.toNat)) H
theorem strRep_zero (a : Str) : strRep a 0 = Str.empty := rfl
theorem strRep_one (a : Str) : strRep a 1 = a := by
  unfold strRep
  cases a with
  | mk cs => simp
theorem foldl_none : ∀ (n : Nat) (z : Array Nat), (List.replicate n (#[] : Array Nat)).foldl (· ++ ·) z = z
  | 0, _ => rfl
  | n + 1, z => by
    rw [List.replicate_succ, List.foldl_cons, Array.append_empty]
    exact foldl_none n z
theorem strRep_none {a : Str} (h : a.length = 0) (n : Nat) : strRep a n = a := by
  cases a with
  | mk cs =>
    have e : cs = #[] := Array.eq_empty_of_size_eq_zero h
    subst e
    unfold strRep
    rw [foldl_none]
theorem foldl_size (cs : Array Nat) : ∀ (n : Nat) (z : Array Nat), ((List.replicate n cs).foldl (· ++ ·) z).size = z.size + cs.size * n
  | 0, z => by simp
  | n + 1, z => by
    rw [List.replicate_succ, List.foldl_cons, foldl_size cs n, Array.size_append, Nat.mul_succ]
    omega
theorem strRep_len (a : Str) (n : Nat) : (strRep a n).length = a.length * n := by
  show ((List.replicate n a.cps).foldl (· ++ ·) #[]).size = a.cps.size * n
  rw [foldl_size]
  simp
theorem op_repS : OpR X (binaryOp .Mult) rRepS := by
  intro pins s σ H x y v u Q I hx hy h
  obtain ⟨a, k, rfl, rfl, lo, hi, hz, q⟩ := h
  obtain ⟨t, rfl⟩ := hx
  obtain ⟨t2, rfl⟩ := hy
  have line := sizeLine_eq
  refine PySem.P.mul_str (by rw [decide_eq_false (by omega), decide_eq_false (by omega)]; rfl) (fun h1 _ => ?_) (fun _ _ => ?_) ?_
  · have hk : 1 ≤ k := by omega
    intro bad
    have b1 : ((a.length * k.toNat : Nat) : Int) ≤ ((16777216 : Nat) : Int) := Int.ofNat_le.mpr (by rw [← line]; exact hz)
    have b2 : ((a.length * k.toNat : Nat) : Int) = (a.length : Int) * k := by
      rw [Int.natCast_mul, Int.toNat_of_nonneg (by omega)]
    have b3 : (2 ^ 63 - 1) / k < (a.length : Int) := bad
    have b4 : (2 ^ 63 - 1 : Int) < (a.length : Int) * k := (Int.ediv_lt_iff_lt_mul (by omega)).mp b3
    rw [← b2] at b4
    exact absurd (Int.lt_of_lt_of_le b4 b1) (by decide)
  · unfold Builtin.Str.tooLong
    exact decide_eq_false (by omega)
  · by_cases h1 : k < 1
    · rw [if_pos h1]
      have e : k.toNat = 0 := by omega
      rw [e, strRep_zero] at q
      exact ⟨by decide, ⟨.str _, H, I.tok _, ⟨_, rfl⟩, q⟩⟩
    · rw [if_neg h1]
      by_cases h2 : (k == 1 || a.length == 0) = true
      · rw [if_pos h2]
        have e : strRep a k.toNat = a := by
          rw [Bool.or_eq_true, beq_iff_eq, beq_iff_eq] at h2
          rcases h2 with h2 | h2
          · rw [h2]
            exact strRep_one a
          · exact strRep_none h2 _
        rw [e] at q
        exact ⟨.str _, H, I, ⟨_, rfl⟩, q⟩
      · rw [if_neg h2]
        refine ⟨?_, ⟨.str _, H, I.tok _, ⟨_, rfl⟩, q⟩⟩
        show (strRep a k.toNat).length ≤ sizeLine
        rw [strRep_len]
        exact hz
theorem opf_mul : OpF X mg (binaryOp .Mult) mulD := by
  refine ⟨_, OpR.or4 op_mulW op_repS op_repL op_repL, fun c x y d v w Q rc hv hw e k => ?_⟩
  cases mulD_cases e with
  | int i j h =>
    obtain rfl : v = .int i := hv
    obtain rfl : w = .int j := hw
    exact .inl ⟨i, j, rfl, rfl, h, k c rfl rfl rc Ext0.refl _ rfl⟩
  | str a j h =>
    obtain rfl : v = .str a := hv
    obtain rfl : w = .int j := hw
    exact .inr (.inl ⟨a, j, rfl, rfl, h.1, h.2.1, h.2.2, k c rfl rfl rc Ext0.refl _ rfl⟩)
  | @lst x a j h1 h =>
    obtain ⟨p, vs, rfl, q1, l1⟩ := lstOf_rep rc.rc h1 hv
    obtain rfl : w = .int j := hw
    have e1 := RepL.length l1
    refine .inr (.inr (.inl ⟨p, j, vs, rfl, rfl, q1, h.1, h.2.1, by rw [← e1]; exact h.2.2, fun r hr => ?_⟩))
    have lr : ∀ n : Nat, RepL X.K mg c.h.ι c.h.F (List.replicate n a).flatten (List.replicate n vs).flatten := fun n => by
      induction n with
      | zero => exact (rfl : ([] : List V) = [])
      | succ n ih =>
        rw [List.replicate_succ, List.replicate_succ, List.flatten_cons, List.flatten_cons]
        exact l1.append ih
    exact k (c.frz r (.lst _)) rfl rfl (rc.frz hr) (Ext.frz rc hr) (.ref r) (frz_lst (rc.rc.fnone hr) (lr _))

/-! ### is None, is not None -/
def isNon : D → Bool
  | .non => true
  | _ => false
theorem isNon_rep {ι : List Addr} {F : Hp} {d : D} {v : V} (h : RepV K mg ι F d v) : decide (v = .non) = isNon d := by
  cases d with
  | non =>
    obtain rfl : v = .non := h
    simp [isNon]
  | bl b =>
    obtain rfl : v = .bl b := h
    simp [isNon]
  | int b =>
    obtain rfl : v = .int b := h
    simp [isNon]
  | str b =>
    obtain rfl : v = .str b := h
    simp [isNon]
  | lst xs =>
    obtain ⟨a, vs, rfl, _⟩ := h
    simp [isNon]
  | tup xs =>
    obtain ⟨a, vs, rfl, _⟩ := h
    simp [isNon]
  | ref n =>
    obtain ⟨a, rfl, _⟩ := h
    simp [isNon]
  | dct ks ds =>
    obtain ⟨a, vs, rfl, _⟩ := h
    simp [isNon]
  | exc C ks ds =>
    obtain ⟨a, ca, d, vs, rfl, _⟩ := h
    simp [isNon]
  | rng lo hi =>
    obtain ⟨a, rfl, _⟩ := h
    simp [isNon]
  | ty n =>
    obtain rfl : v = .ty n := h
    simp [isNon]
  | cls C =>
    obtain ⟨a, rfl, _⟩ := h
    simp [isNon]
def fIs (_ : List Cell) (x y : D) : Option D := match y with
  | .non => some (.bl (isNon x))
  | _ => none
def fIsN (_ : List Cell) (x y : D) : Option D := match y with
  | .non => some (.bl (!isNon x))
  | _ => none
theorem opf_is : OpF X mg (compareOp .Is) fIs := by
  refine ⟨_, op_isN, fun c x y d v w Q rc hv hw e k => ?_⟩
  unfold fIs at e
  split at e
  · cases e
    obtain rfl : w = .non := hw
    refine ⟨rfl, ?_⟩
    rw [isNon_rep hv]
    exact k c rfl rfl rc Ext0.refl _ rfl
  · cases e
theorem opf_isN : OpF X mg (compareOp .IsNot) fIsN := by
  refine ⟨_, op_notN, fun c x y d v w Q rc hv hw e k => ?_⟩
  unfold fIsN at e
  split at e
  · cases e
    obtain rfl : w = .non := hw
    refine ⟨rfl, ?_⟩
    rw [isNon_rep hv]
    exact k c rfl rfl rc Ext0.refl _ rfl
  · cases e

/-! ### in -/
def inD (st : List Cell) (x y : D) : Option Bool := match x, y with
  | .int i, .rng lo hi => some (decide (lo ≤ i ∧ i < hi))
  | .str a, .str z => if a.length = 1 then some (decide (a.cps.getD 0 0 ∈ z.cps.toList)) else none
  | x, y => match lstOf st y with
    | some ys => (match py st 20 x, pyL (py st 19) ys with
      | some p, some qs => some (qs.any fun z => PyData.eqv z p)
      | _, _ => none)
    | none => none
inductive InIs (st : List Cell) : D → D → Bool → Prop
  | rng (i lo hi : Int) : InIs st (.int i) (.rng lo hi) (decide (lo ≤ i ∧ i < hi))
  | str (n : Nat) (z : Str) : InIs st (.str ⟨#[n]⟩) (.str z) (decide (n ∈ z.cps.toList))
  | lst {x y : D} {ys : List D} {p : PyData} {qs : List PyData} (h1 : lstOf st y = some ys) (h2 : py st 20 x = some p) (h3 : pyL (py st 19) ys = some qs) : InIs st x y (qs.any fun z => PyData.eqv z p)
theorem inD_cases {st : List Cell} {x y : D} {b : Bool} (h : inD st x y = some b) : InIs st x y b := by
  unfold inD at h
  split at h
  · cases h
    exact .rng _ _ _
  · rename_i a z
    by_cases hz : a.length = 1
    · rw [if_pos hz] at h
      cases h
      obtain ⟨cs⟩ := a
      replace hz : cs.size = 1 := hz
      obtain ⟨n, rfl⟩ := Array.size_eq_one_iff.mp hz
      exact .str n z
    · rw [if_neg hz] at h
      cases h
  · split at h
    · rename_i ys hy
      split at h
      · rename_i p qs h2 h3
        cases h
        exact .lst hy h2 h3
      · cases h
    · cases h
def fIn (st : List Cell) (x y : D) : Option D := (inD st x y).map D.bl
def fNotIn (st : List Cell) (x y : D) : Option D := match y with
  | .rng _ _ => none
  | y => (inD st x y).map fun b => D.bl (!b)
theorem fNotIn_cases {st : List Cell} {x y d : D} (h : fNotIn st x y = some d) : (∀ lo hi, y ≠ .rng lo hi) ∧ ∃ b, inD st x y = some b ∧ d = .bl (!b) := by
  unfold fNotIn at h
  split at h
  · cases h
  · rename_i hy
    cases e : inD st x y with
    | none =>
      rw [e] at h
      cases h
    | some b =>
      rw [e] at h
      cases h
      exact ⟨fun lo hi z => hy lo hi z, b, rfl, rfl⟩
theorem in_lst {c : HC} {x y : D} {ys : List D} {p : PyData} {qs : List PyData} {v w : V} (r : RepC K mg c) (hv : RepV K mg c.ι c.F x v) (hw : RepV K mg c.ι c.F y w) (h1 : lstOf c.st y = some ys) (h2 : py c.st 20 x = some p) (h3 : pyL (py c.st 19) ys = some qs) :
    Dp K c.H v p ∧ Dp K c.H w (.list qs) ∧ SeqAt.shaped p = true ∧ SeqAt.shaped (.list qs) = true := by
  obtain ⟨a, vs, rfl, q, l⟩ := lstOf_rep r h1 hw
  refine ⟨py_dp r _ _ _ _ hv h2, .lst q (pyL_dp (py_dp r 19) ys vs qs l h3), py_shaped h2 (by decide), ?_⟩
  have e : py c.st 20 (.lst ys) = some (.list qs) := by
    show (pyL (py c.st 19) ys).map PyData.list = _
    rw [h3]
    rfl
  exact py_shaped e (by decide)
theorem units65 {k : Nat} (hr : Room k X.A) : X.A.units + 65 < cLine := by
  have := hr.un
  omega
theorem OpR.or2 {g : Value → Value → Sem Value} {r1 r2 : R2} (h1 : OpR X g r1) (h2 : OpR X g r2) : OpR X g (fun x y H Q => r1 x y H Q ∨ r2 x y H Q) := by
  intro pins s σ H x y v u Q I rx ry h
  rcases h with h | h
  · exact h1 pins s σ H x y v u Q I rx ry h
  · exact h2 pins s σ H x y v u Q I rx ry h
theorem opf_in {k : Nat} (hr : Room k X.A) : OpF X mg (compareOp .In) fIn := by
  refine ⟨_, OpR.or4 op_in_rng op_in_sign (op_inD (units65 hr)) op_in_sign, fun c x y d v w Q rc hv hw e kk => ?_⟩
  unfold fIn at e
  cases h : inD c.h.st x y with
  | none =>
    rw [h] at e
    cases e
  | some b =>
    rw [h] at e
    cases e
    have q : Q (.bl b) c.h.H := kk c rfl rfl rc Ext0.refl _ rfl
    cases inD_cases h with
    | rng i lo hi =>
      obtain rfl : v = .int i := hv
      obtain ⟨a, rfl, hF⟩ := hw
      exact .inl ⟨i, a, lo, hi, rfl, rfl, rc.rc.fr _ _ hF, q⟩
    | str n z =>
      obtain rfl : v = .str ⟨#[n]⟩ := hv
      obtain rfl : w = .str z := hw
      exact .inr (.inl ⟨n, z, rfl, rfl, q⟩)
    | lst h1 h2 h3 =>
      obtain ⟨d1, d2, s1, s2⟩ := in_lst rc.rc hv hw h1 h2 h3
      exact .inr (.inr (.inl ⟨_, _, d1, d2, s1, s2, q⟩))
theorem opf_notIn {k : Nat} (hr : Room k X.A) : OpF X mg (compareOp .NotIn) fNotIn := by
  refine ⟨_, OpR.or2 op_notIn_sign (op_notInD (units65 hr)), fun c x y d v w Q rc hv hw e kk => ?_⟩
  obtain ⟨hy, b, h, rfl⟩ := fNotIn_cases e
  have q : Q (.bl (!b)) c.h.H := kk c rfl rfl rc Ext0.refl _ rfl
  cases inD_cases h with
  | rng i lo hi => exact absurd rfl (hy lo hi)
  | str n z =>
    obtain rfl : v = .str ⟨#[n]⟩ := hv
    obtain rfl : w = .str z := hw
    exact .inl ⟨n, z, rfl, rfl, q⟩
  | lst h1 h2 h3 =>
    obtain ⟨d1, d2, s1, s2⟩ := in_lst rc.rc hv hw h1 h2 h3
    exact .inr ⟨_, _, d1, d2, s1, s2, q⟩
/-! ### unary minus -/
end
end Mir
/-! M12: types, isinstance, methods of texts, small dict displays, unary minus. -/
namespace Mir
open PySem PySem.Spec PyProof.Rows L2
section
variable {K : PySem.W.Frag} {mg : Str → Option Value} {W : WX} {X : Cx} {c c1 : Cfg}
variable {a b e o : Expr} {es : List Expr} {ma mb : M D} {ms : M (List D)} {pos p p' apos : Pos} {x : Str}

/-! ### types and classes as data -/
theorem me_ty {n : String} (hg : Gl X x) (hm : X.mg x = none) (hv : bootBuiltins x = some (.type n)) (hn : x ≠ "__name__" := by decide) (hd : (x == ("__debug__" : Str)) = false := by decide) : PE X (.Name x pos) (T K mg W (pureM (.ty n))) :=
  me_c (v := .ty n) ⟨fun _ _ _ H _ I h => ld_blt I hg hm hv ⟨.ty n, H, I, rfl, h⟩ hn hd⟩ fun _ _ => rfl
theorem me_cls {C : Addr} (hg : Gl X x) (hm : X.mg x = some (.ref C)) (hm' : mg x = some (.ref C)) (hd : (x == ("__debug__" : Str)) = false := by decide) : PE X (.Name x pos) (T K mg W (pureM (.cls x))) :=
  me_c (v := .ref C) (pe_glob hg hm rfl hd) fun _ _ => ⟨C, rfl, hm'⟩

/-! ### unary minus -/
def negD (_ : List Cell) : D → Option D
  | .int i => some (.int (-i))
  | _ => none
theorem me_neg (h : PE X e (T X.K mg W ma)) : PE X (.UnaryOp .USub e pos) (T X.K mg W (unM negD ma)) := by
  refine PE.imp (pe_un un_neg h) fun σ H Q q => ?_
  obtain ⟨c, rfl, rfl, rc, z⟩ := q
  refine ⟨c, rfl, rfl, rc, (Post.bind (m := ma c.s) z).mono fun y c1 e1 r1 x1 z1 v hv => ?_⟩
  cases y with
  | int i =>
    obtain rfl : v = .int i := hv
    exact ⟨i, rfl, z1.now r1 _ rfl⟩
  | _ => exact z1.elim

/-! ### methods of texts -/
def MethF (X : Cx) (mg : Str → Option Value) (id : String) (f : List Cell → Str → D → Option D) : Prop :=
  ∃ r, MtR X id r ∧ ∀ (c : Cfg) (a : Str) (y d : D) (w : V) (Q : VK), Rep X.K mg c → RepV X.K mg c.h.ι c.h.F y w → f c.h.st a y = some d →
    (∀ c' : Cfg, c'.s = c.s → c'.σ = c.σ → Rep X.K mg c' → Ext c c' → ∀ u, RepV X.K mg c'.h.ι c'.h.F d u → Q u c'.h.H) → r (.str a) [w] c.h.H Q
def metM (f : List Cell → Str → D → Option D) (ma mb : M D) : M D := bindM ma fun x => match x with
  | .str a => bindM mb fun y s => (match f s.st a y with
    | some d => .ok d s
    | none => .bad)
  | _ => badM
theorem me_m1 {id : String} {f : List Cell → Str → D → Option D} (hf : MethF X mg id f) (slot : Slot "str" x id) (ty : typeOf (.builtin id) = pure (.type "method_descriptor")) (ho : PE X o (T X.K mg W ma)) (he : PE X e (T X.K mg W mb))
    (hs : starEach [e] X.env = [(false, eval e X.env)] := by rfl) (hbase : attributeBase o x X.env (eval o X.env) = eval o X.env := by rfl) (hline : (apos.endLine == pos.line) = true := by rfl) :
    PE X (.Call (.Attribute o x apos) [e] [] pos) (T X.K mg W (metM f ma mb)) := by
  obtain ⟨r, h1, h2⟩ := hf
  refine PE.imp (pe_m1 slot ty h1 ho he hs hbase hline) fun σ H Q q => ?_
  obtain ⟨c, rfl, rfl, rc, z⟩ := q
  refine ⟨c, rfl, rfl, rc, (Post.bind (m := ma c.s) z).mono fun y c1 e1 r1 x1 z1 v hv => ?_⟩
  cases y with
  | str a =>
    obtain rfl : v = .str a := hv
    refine ⟨⟨a, rfl⟩, c1, e1, rfl, r1, (Post.bind (m := mb c1.s) z1).mono fun u c2 e2 r2 x2 z2 w hw => ?_⟩
    cases hd : f c2.s.st a u with
    | none =>
      rw [hd] at z2
      exact z2.elim
    | some d =>
      rw [hd] at z2
      exact h2 c2 a u d w Q r2 hw hd z2
  | _ => exact z1.elim
/-- a method of a text that gives a value by the values -/
def strsD (st : List Cell) : List D → Option (List Str)
  | [] => some []
  | d :: ds => match d, strsD st ds with
    | .str x, some xs => some (x :: xs)
    | _, _ => none
theorem strsD_rep {ι : List Addr} {F : Hp} {st : List Cell} : ∀ {ds : List D} {vs : List V} {ys : List Str}, RepL K mg ι F ds vs → strsD st ds = some ys → vs = ys.map V.str
  | [], _, _, h, e => by
    cases e
    exact h
  | d :: ds, _, _, h, e => by
    obtain ⟨v, w, rfl, q, l⟩ := h
    unfold strsD at e
    split at e
    · rename_i y ys hy
      cases e
      obtain rfl : v = .str y := q
      rw [strsD_rep l hy]
      rfl
    · cases e
theorem strsD_back {ι : List Addr} {F : Hp} : ∀ ys : List Str, RepL K mg ι F (ys.map D.str) (ys.map V.str)
  | [] => rfl
  | y :: ys => ⟨.str y, _, rfl, rfl, strsD_back ys⟩
def stripD (_ : List Cell) (a : Str) : D → Option D
  | .str b => if a.length ≤ sizeLine then some (.str (Txt.stripChars a b)) else none
  | _ => none
theorem mf_strip : MethF X mg "str.strip" stripD := by
  refine ⟨_, mt_stripChars, fun c a y d w Q rc hw e k => ?_⟩
  unfold stripD at e
  split at e
  · rename_i b
    by_cases hz : a.length ≤ sizeLine
    · rw [if_pos hz] at e
      cases e
      obtain rfl : w = .str b := hw
      exact ⟨a, b, rfl, rfl, hz, k c rfl rfl rc Ext0.refl _ rfl⟩
    · rw [if_neg hz] at e
      cases e
  · cases e
def countD (_ : List Cell) (a : Str) : D → Option D
  | .str b => some (.int (Txt.count a b))
  | _ => none
theorem mf_count : MethF X mg "str.count" countD := by
  refine ⟨_, mt_count, fun c a y d w Q rc hw e k => ?_⟩
  unfold countD at e
  split at e
  · rename_i b
    cases e
    obtain rfl : w = .str b := hw
    exact ⟨a, b, rfl, rfl, k c rfl rfl rc Ext0.refl _ rfl⟩
  · cases e
def splitD (_ : List Cell) (a : Str) : D → Option D
  | .str b => if (b.length == 0) = false ∧ a.length + 2 ≤ sizeLine then some (.lst ((Txt.split a b).map D.str)) else none
  | _ => none
theorem mf_split : MethF X mg "str.split" splitD := by
  refine ⟨_, mt_split, fun c a y d w Q rc hw e k => ?_⟩
  unfold splitD at e
  split at e
  · rename_i b
    by_cases hz : (b.length == 0) = false ∧ a.length + 2 ≤ sizeLine
    · rw [if_pos hz] at e
      cases e
      obtain rfl : w = .str b := hw
      exact ⟨a, b, rfl, rfl, hz.1, hz.2, fun p hp => k (c.frz p (.lst _)) rfl rfl (rc.frz hp) (Ext.frz rc hp) (.ref p) (frz_lst (rc.rc.fnone hp) (strsD_back _))⟩
    · rw [if_neg hz] at e
      cases e
  · cases e
def joinD (st : List Cell) (a : Str) (y : D) : Option D := match seqOf st y with
  | some ds => (match strsD st ds with
    | some ys => if (ys.map (·.length)).sum + ys.length * a.length ≤ 16777216 then some (.str (Txt.join a ys)) else none
    | none => none)
  | none => none
theorem seqOf_rep {c : HC} {d : D} {ds : List D} {v : V} (r : RepC K mg c) (h : seqOf c.st d = some ds) (hv : RepV K mg c.ι c.F d v) : ∃ a vs, v = .ref a ∧ (SqL K c.H a vs ∨ SqT K c.H a vs) ∧ RepL K mg c.ι c.F ds vs := by
  have L : ∀ {d : D}, lstOf c.st d = some ds → RepV K mg c.ι c.F d v → ∃ a vs, v = .ref a ∧ (SqL K c.H a vs ∨ SqT K c.H a vs) ∧ RepL K mg c.ι c.F ds vs := fun {d} h hv => by
    obtain ⟨a, vs, e, q, l⟩ := lstOf_rep r h hv
    exact ⟨a, vs, e, .inl q, l⟩
  cases d with
  | tup xs =>
    cases h
    obtain ⟨a, vs, e, q, l⟩ := tupOf_rep r (ds := ds) rfl hv
    exact ⟨a, vs, e, .inr q, l⟩
  | lst xs => exact L (d := .lst xs) h hv
  | ref n => exact L (d := .ref n) h hv
  | _ => cases h
theorem mf_join : MethF X mg "str.join" joinD := by
  refine ⟨_, mt_join, fun c a y d w Q rc hw e k => ?_⟩
  unfold joinD at e
  cases h1 : seqOf c.h.st y with
  | none =>
    rw [h1] at e
    cases e
  | some ds =>
    rw [h1] at e
    replace e : (match strsD c.h.st ds with
      | some ys => if (ys.map (·.length)).sum + ys.length * a.length ≤ 16777216 then some (D.str (Txt.join a ys)) else none
      | none => none) = some d := e
    cases h2 : strsD c.h.st ds with
    | none =>
      rw [h2] at e
      cases e
    | some ys =>
      rw [h2] at e
      replace e : (if (ys.map (·.length)).sum + ys.length * a.length ≤ 16777216 then some (D.str (Txt.join a ys)) else none) = some d := e
      by_cases hz : (ys.map (·.length)).sum + ys.length * a.length ≤ 16777216
      · rw [if_pos hz] at e
        cases e
        obtain ⟨p, vs, rfl, q, l⟩ := seqOf_rep rc.rc h1 hw
        have ev := strsD_rep l h2
        subst ev
        exact ⟨a, p, ys, rfl, rfl, q, hz, k c rfl rfl rc Ext0.refl _ rfl⟩
      · rw [if_neg hz] at e
        cases e
theorem slot_strip : Slot "str" "strip" "str.strip" := F.slot_str_strip
theorem slot_join : Slot "str" "join" "str.join" := F.slot_str_join
theorem slot_split : Slot "str" "split" "str.split" := F.slot_str_split
theorem slot_count : Slot "str" "count" "str.count" := F.slot_str_count
theorem ty_strip : typeOf (.builtin "str.strip") = pure (.type "method_descriptor") := F.type_str_strip
theorem ty_join : typeOf (.builtin "str.join") = pure (.type "method_descriptor") := F.type_str_join
theorem ty_split : typeOf (.builtin "str.split") = pure (.type "method_descriptor") := F.type_str_split
theorem ty_count : typeOf (.builtin "str.count") = pure (.type "method_descriptor") := F.type_str_count

/-! ### dict displays of none, one -/
theorem me_dct0 : PE X (.Dict [] [] pos) (T X.K mg W (pureM (.dct [] []))) := by
  refine PE.imp pe_dnewK fun σ H Q q => ?_
  obtain ⟨c, rfl, rfl, rc, z⟩ := q
  exact fun p hp => Post.frz (c := c) z rc hp ⟨p, [], rfl, upd_same, rfl, rfl⟩
def keyD : D → Option Key
  | .int i => some (.inl i)
  | .str x => some (.inr x)
  | _ => none
theorem keyD_rep {ι : List Addr} {F : Hp} {d : D} {v : V} {k : Key} (h : keyD d = some k) (hv : RepV K mg ι F d v) : v = kV k := by
  unfold keyD at h
  split at h
  · cases h
    exact hv
  · cases h
    exact hv
  · cases h
def dct1M (ma mb : M D) : M D := bindM ma fun x => bindM mb fun y s => match keyD x with
  | some k => .ok (.dct [k] [y]) s
  | none => .bad
/-- held aside, whatever it is -/
structure FlO (c : Cfg) (p : Addr) (o : HO) : Prop where
  eH : c.h.H p = some o
  eF : c.h.F p = none
  eM : ¬ Mu c p
theorem FlO.ext {p : Addr} {o : HO} (f : FlO c p o) (x : Ext c c1) : FlO c1 p o := by
  have some_ : c.h.H p ≠ none := fun z => by
    rw [f.eH] at z
    cases z
  refine ⟨x.fr p _ f.eH f.eM, ?_, fun h => ?_⟩
  · cases q : c1.h.F p with
    | none => rfl
    | some u =>
      rcases x.nf p u q with z | z | z
      · rw [f.eF] at z
        cases z
      · exact absurd z some_
      · exact absurd z f.eM
  · rcases x.ow p h with z | z
    · exact f.eM z
    · exact some_ z
theorem noMu (r : Rep K mg c) {p : Addr} (hp : c.h.H p = none) : ¬ Mu c p := fun z => by
  rcases z with z | ⟨i, y, z1, z2⟩
  · exact r.rc.tr p z hp
  · obtain ⟨a, h1, h2, h3, h4, h5⟩ := r.own i y z1
    rw [h1] at z2
    cases z2
    exact h4 hp
theorem FlO.new (r : Rep K mg c) {p : Addr} {o : HO} (hp : c.h.H p = none) : Rep K mg (c.fl p o) ∧ FlO (c.fl p o) p o ∧ Ext c (c.fl p o) :=
  ⟨r.fl (r.rc.fnone hp) (noMu r hp), ⟨upd_same, r.rc.fnone hp, noMu r hp⟩, Ext.fl (c := c) Ext0.refl hp⟩
theorem FlO.put {p : Addr} {o o' : HO} (f : FlO c p o) (r : Rep K mg c) : Rep K mg (c.fl p o') ∧ FlO (c.fl p o') p o' := ⟨r.fl f.eF f.eM, ⟨upd_same, f.eF, f.eM⟩⟩
theorem Rep.stillO {p : Addr} {o : HO} (r : Rep K mg c) (f : FlO c p o) : Rep K mg (c.still p o) := by
  have hι : (c.still p o).h.ι = c.h.ι ++ [] := by simp [Cfg.still]
  have grow : ∀ a u, c.h.F a = some u → (c.still p o).h.F a = some u := upd_fr f.eF
  have off : ∀ {a : Addr}, a ≠ p → c.h.F a = none → (c.still p o).h.F a = none := fun {a} ha z => by
    show (upd c.h.F p o) a = none
    rw [upd_ne ha]
    exact z
  refine ⟨⟨fun a u e => ?_, r.rc.nd, r.rc.len, fun n a x e1 e2 => ?_, r.rc.tr⟩, r.sln, fun i d e => ?_, fun i x e => ?_, r.dis⟩
  · by_cases ha : a = p
    · subst ha
      replace e : (upd c.h.F a o) a = some u := e
      rw [upd_same] at e
      cases e
      exact f.eH
    · replace e : (upd c.h.F p o) a = some u := e
      rw [upd_ne ha] at e
      exact r.rc.fr a u e
  · have ha : a ≠ p := fun z => f.eM (.inl (z ▸ List.mem_of_getElem? e1))
    exact (r.rc.cell n a x e1 e2).mono hι grow (off ha) fun u z => z
  · obtain ⟨v, h1, h2⟩ := r.val i d e
    refine ⟨v, h1, ?_⟩
    rw [hι]
    exact RepV.mono grow d v h2
  · obtain ⟨a, h1, h2, h3, h4, h5⟩ := r.own i x e
    have ha : a ≠ p := fun z => f.eM (.inr ⟨i, x, e, z ▸ h1⟩)
    exact ⟨a, h1, h2, off ha h3, h4, h5.mono hι grow (off ha) fun u z => z⟩
/-- the thing that was held aside since c0 becomes a frozen value -/
theorem FlO.frz {c0 : Cfg} {p : Addr} {o : HO} {d : D} {s : S} {Q : VK} (h : Post K mg W c0 (fun d c' => ∀ v, RepV K mg c'.h.ι c'.h.F d v → Q v c'.h.H) (.ok d s)) (f : FlO c p o) (rc : Rep K mg c) (x : Ext c0 c) (h0 : c0.h.H p = none) (es : c.s = s) (eσ : c.σ = c0.σ)
    (hd : RepV K mg (c.still p o).h.ι (c.still p o).h.F d (.ref p)) : Q (.ref p) c.h.H := h (c.still p o) es eσ (rc.stillO f) (x.still h0 f.eF) (.ref p) hd
theorem me_dct1 (ha : PE X a (T X.K mg W ma)) (hb : PE X b (T X.K mg W mb)) : PE X (.Dict [some a] [b] pos) (T X.K mg W (dct1M ma mb)) := by
  refine PE.imp (pe_disp (pps_cons ha hb pps_nil) rfl rfl (fun z => nomatch z) (show 1 ≤ 15 by decide)) fun σ H Q q => ?_
  obtain ⟨c, rfl, rfl, rc, z⟩ := q
  intro p hp
  obtain ⟨r0, f0, x0⟩ := FlO.new (o := .dK []) rc hp
  refine ⟨c.fl p (.dK []), rfl, rfl, r0, ?_⟩
  show Post X.K mg W _ _ (ma c.s)
  unfold dct1M bindM at z
  cases e : ma c.s with
  | bad =>
    rw [e] at z
    exact z
  | exc y s =>
    rw [e] at z
    exact Post.shift (α := D) (P := fun _ _ => True) (r := .exc y s) z rfl x0
  | ok dx s =>
    rw [e] at z
    intro c1 e1 e2 r1 x1 v hv
    refine ⟨c1, e2, rfl, r1, ?_⟩
    rw [e1]
    have x01 := x0.trans x1
    replace z : Post X.K mg W c (fun d c' => ∀ v, RepV X.K mg c'.h.ι c'.h.F d v → Q v c'.h.H) ((mb s).bind fun y s => match keyD dx with
      | some k => .ok (.dct [k] [y]) s
      | none => .bad) := z
    cases g : mb s with
    | bad =>
      rw [g] at z
      exact z
    | exc y s2 =>
      rw [g] at z
      exact Post.shift (α := D) (P := fun _ _ => True) (r := .exc y s2) z e2 x01
    | ok dy s2 =>
      rw [g] at z
      intro c2 e3 e4 r2 x2 w hw
      replace z : Post X.K mg W c (fun d c' => ∀ v, RepV X.K mg c'.h.ι c'.h.F d v → Q v c'.h.H) (match keyD dx with
        | some k => .ok (.dct [k] [dy]) s2
        | none => .bad) := z
      have f2 := (f0.ext x1).ext x2
      cases hk : keyD dx with
      | none =>
        rw [hk] at z
        exact z.elim
      | some k =>
        rw [hk] at z
        obtain ⟨r3, f3⟩ := f2.put (o' := .dK [(k, w)]) r2
        have ev := keyD_rep hk hv
        subst ev
        refine ⟨f2.eH, [(k, w)], rfl, by show 1 ≤ 15; decide, ?_⟩
        show Q (.ref p) (upd c2.h.H p (.dK [(k, w)]))
        exact FlO.frz (c0 := c) (c := c2.fl p (.dK [(k, w)])) z f3 r3 (Ext.fl (c := c2) (x01.trans x2) hp) hp e3 (e4.trans e2) ⟨p, [w], rfl, upd_same, rfl, RepL.one (by
          have hι : (c2.fl p (.dK [(k, w)])).h.ι = c2.h.ι ++ [] := by simp [Cfg.fl]
          show RepV X.K mg (c2.h.ι) (upd c2.h.F p _) dy w
          have q := RepV.mono (r := []) (upd_fr (o := .dK [(k, w)]) f2.eF) dy w hw
          simpa using q)⟩
end
end Mir
/-! M13: isinstance of data. -/
namespace Mir
open PySem PySem.Spec PyProof.Rows L2

inductive Ty where
  | b (n : String)
  | o (C : Str)
deriving DecidableEq
def valT (mg : Str → Option Value) : Ty → Option Value
  | .b n => some (.type n)
  | .o C => mg C
def tagOf (st : List Cell) : D → Option Ty
  | .non => some (.b "NoneType")
  | .bl _ => some (.b "bool")
  | .int _ => some (.b "int")
  | .str _ => some (.b "str")
  | .lst _ => some (.b "list")
  | .tup _ => some (.b "tuple")
  | .dct _ _ => some (.b "dict")
  | .ref n => match st[n]? with
    | some (.lst _) => some (.b "list")
    | some (.dct _) => some (.b "dict")
    | _ => none
  | .exc C _ _ => some (.o C)
  | _ => none
def clsT : D → Option Ty
  | .ty n => some (.b n)
  | .cls C => some (.o C)
  | _ => none
def clsL : List D → Option (List Ty)
  | [] => some []
  | d :: ds => match clsT d, clsL ds with
    | some t, some ts => some (t :: ts)
    | _, _ => none
def anyK (kt : Ty → Ty → Option Bool) (t : Ty) : List Ty → Option Bool
  | [] => some false
  | c :: cs => match kt t c with
    | some true => some true
    | some false => anyK kt t cs
    | none => none
def isiD (kt : Ty → Ty → Option Bool) (st : List Cell) : List D → Option D
  | [x, c] => match tagOf st x with
    | some t => (match c with
      | .tup cs => (match clsL cs with
        | some ts => if ts.isEmpty = true then none else (anyK kt t ts).map D.bl
        | none => none)
      | c => (match clsT c with
        | some u => (kt t u).map D.bl
        | none => none))
    | none => none
  | _ => none
/-- the table tells the truth -/
structure KitS (K : PySem.W.Frag) (mg : Str → Option Value) (kt : Ty → Ty → Option Bool) : Prop where
  kit : ∀ t c b vt vc, kt t c = some b → valT mg t = some vt → valT mg c = some vc → PySem.W.kitOne K vt vc = some b
  exc : ∀ C c b ca, kt (.o C) c = some b → mg C = some (.ref ca) → ExcC K ca
/-- the built-in types among themselves -/
def tysA : List String := ["NoneType", "bool", "int", "str", "list", "tuple", "dict"]
def tysB : List String := ["bool", "int", "str", "list", "tuple", "dict"]
def ktB (a b : String) : Option Bool := if a ∈ tysA ∧ b ∈ tysB then some (a == b || (a == "bool" && b == "int")) else none
theorem ktB_all : ∀ a ∈ tysA, ∀ b ∈ tysB, kitB a b = some (a == b || (a == "bool" && b == "int")) := by decide +kernel
theorem ktB_ok {K : PySem.W.Frag} {a b : String} {r : Bool} (h : ktB a b = some r) : PySem.W.kitOne K (.type a) (.type b) = some r := by
  unfold ktB at h
  by_cases z : a ∈ tysA ∧ b ∈ tysB
  · rw [if_pos z] at h
    cases h
    exact kit_ty (ktB_all a z.1 b z.2)
  · rw [if_neg z] at h
    cases h
def kt0 : Ty → Ty → Option Bool
  | .b a, .b c => ktB a c
  | _, _ => none
theorem kitS0 (K : PySem.W.Frag) (mg : Str → Option Value) : KitS K mg kt0 := by
  refine ⟨fun t c b vt vc h h1 h2 => ?_, fun C c b ca h => by cases h⟩
  cases t with
  | b x =>
    cases c with
    | b y =>
      cases h1
      cases h2
      exact ktB_ok h
    | o y => cases h
  | o x => cases h
/-- a value's type, exceptions of own classes among them -/
inductive TyZ (K : PySem.W.Frag) (H : Hp) : V → Value → Prop where
  | base {x : V} {t : Value} (h : TyX K H x t) : TyZ K H x t
  | exc {a ca : Addr} {d : Option Addr} (fs : List (Str × V)) (e : H a = some (exo a ca d)) (ed : ∀ x, d = some x → H x = some (exd x fs)) (k : ExcC K ca) : TyZ K H (.ref a) (.ref ca)
section
variable {K : PySem.W.Frag} {mg : Str → Option Value} {W : WX} {X : Cx} {c c1 : Cfg}
theorem hasD_cls {K : PySem.W.Frag} {D : Addr} (h : PySem.W.hasDictIn K D = true) : (PySem.W.clsIn K D).isSome = true := by
  obtain ⟨cd, hc, _⟩ := PySem.W.any_some h
  rw [hc]
  rfl
theorem tyz_kit {pins : List (Addr × Obj)} {σ : L2.St} {H : Hp} {s : Shared} {x : V} {u t : Value} (I : Inv X pins σ H s) (rx : RelV x u) (ty : TyZ X.K H x t) : ∃ P : Heap → Prop, PySem.W.KitX X.K u t P ∧ P s.heap ∧ u ≠ .builtin "__main__.__loader__#opaque" := by
  cases ty with
  | base h => exact kit_of I rx h
  | @exc a ca d fs e ed k =>
    obtain rfl : u = Value.ref a := rx
    obtain ⟨t1, ho⟩ := exo_at I.hok e
    have ne : (Value.ref a : Value) ≠ .builtin "__main__.__loader__#opaque" := fun z => nomatch z
    cases d with
    | none => exact ⟨_, PySem.W.kitx_exc (od := none) (ox := { cls := .ref ca, dict := none, data := .fields #[.ref t1, .none, .none, .none, .bool false, .none] }) (hasD_cls k.hd) k.hg k.hk k.hs k.ha k.hn k.ht k.hm, ⟨ho, rfl, rfl, trivial⟩, ne⟩
    | some dx =>
      obtain ⟨mA, ⟨oD, es, ep, hd, _⟩, _⟩ := exd_at I.hok (ed dx rfl)
      exact ⟨_, PySem.W.kitx_exc (od := some oD) (ox := { cls := .ref ca, dict := some dx, data := .fields #[.ref t1, .none, .none, .none, .bool false, .none] }) (hasD_cls k.hd) k.hg k.hk k.hs k.ha k.hn k.ht k.hm, ⟨ho, rfl, rfl, hd⟩, ne⟩
def rIsiZ (K : PySem.W.Frag) : List V → Hp → VK → Prop := fun xs H Q => ∃ (x y : V) (t : Value) (b : Bool), xs = [x, y] ∧ TyZ K H x t ∧ Q (.bl b) H ∧
  ((∃ u, ClsV y u ∧ PySem.W.kitOne K t u = some b) ∨ ∃ tp cs us, y = .ref tp ∧ SqT K H tp cs ∧ Paired ClsV cs us ∧ PySem.W.kitAny K t us = some b)
theorem call_isiZ : CallR X (.builtin "isinstance") (rIsiZ X.K) := by
  intro pins s σ H xs us Q I r h
  obtain ⟨x, y, t, b, rfl, ty, q, h⟩ := h
  obtain ⟨u1, u2, rfl, r1, r2⟩ := vals2 r
  obtain ⟨P, Z, p, hx⟩ := tyz_kit I r1 ty
  rcases h with ⟨u, k, e⟩ | ⟨tp, cs, ws, rfl, hT, k, e⟩
  · obtain rfl := k.eq r2
    exact PySem.W.kia_one Z I.kIn p e hx fun tk => ⟨.bl b, H, I.tok tk, rfl, q⟩
  · obtain rfl : u2 = Value.ref tp := r2
    obtain ⟨its, rv, ⟨⟨oc, od, dt, sl⟩, h1, h2, n, h3⟩, _⟩ := I.tuple hT
    obtain rfl := ClsV.all k rv
    dsimp only at h2 h3
    subst h2 h3
    exact PySem.W.kia_tup Z I.kIn p h1 e hx fun tk => ⟨.bl b, H, I.tok tk, rfl, q⟩
theorem sqL_ty {K : PySem.W.Frag} {H : Hp} {a : Addr} {vs : List V} (q : SqL K H a vs) : TyX K H (.ref a) (.type "list") := by
  rcases q with (q | ⟨o, q⟩) | ⟨o, its, n, hk, hc, _⟩
  · exact .base (.lst q)
  · exact .base (.frz q)
  · exact .kList hk hc
theorem sqT_ty {K : PySem.W.Frag} {H : Hp} {a : Addr} {vs : List V} (q : SqT K H a vs) : TyX K H (.ref a) (.type "tuple") := by
  rcases q with (q | ⟨o, q⟩) | ⟨o, its, n, hk, hc, _⟩
  · exact .base (.tup q)
  · exact .fTuple q
  · exact .kTuple hk hc
theorem tag_ty {kt : Ty → Ty → Option Bool} {c : HC} (ks : KitS K mg kt) (r : RepC K mg c) {d : D} {v : V} {t : Ty} (h : tagOf c.st d = some t) (hv : RepV K mg c.ι c.F d v) (hk : ∃ u b, kt t u = some b) : ∃ vt, valT mg t = some vt ∧ TyZ K c.H v vt := by
  cases d with
  | non =>
    obtain rfl : v = .non := hv
    cases h
    exact ⟨_, rfl, .base (.base .non)⟩
  | bl b =>
    obtain rfl : v = .bl b := hv
    cases h
    exact ⟨_, rfl, .base (.base (.bl b))⟩
  | int i =>
    obtain rfl : v = .int i := hv
    cases h
    exact ⟨_, rfl, .base (.base (.int i))⟩
  | str y =>
    obtain rfl : v = .str y := hv
    cases h
    exact ⟨_, rfl, .base (.base (.str y))⟩
  | lst xs =>
    obtain ⟨a, vs, rfl, q, l⟩ := hv
    cases h
    exact ⟨_, rfl, .base (sqL_ty (sqL_mono r.fr q))⟩
  | tup xs =>
    obtain ⟨a, vs, rfl, q, l⟩ := hv
    cases h
    exact ⟨_, rfl, .base (sqT_ty (sqT_mono r.fr q))⟩
  | dct xs ds =>
    obtain ⟨a, vs, rfl, q, hl, l⟩ := hv
    cases h
    exact ⟨_, rfl, .base (.base (.dK (r.fr _ _ q)))⟩
  | exc C ks' ds =>
    obtain ⟨a, ca, dx, vs, rfl, g, q, hd, l⟩ := hv
    cases h
    obtain ⟨u, b, hb⟩ := hk
    exact ⟨_, g, .exc _ (r.fr _ _ q) (fun x z => r.fr _ _ (hd x z)) (ks.exc C u b ca hb g)⟩
  | ref n =>
    obtain ⟨a, rfl, q⟩ := hv
    simp only [tagOf] at h
    cases hc : c.st[n]? with
    | none =>
      rw [hc] at h
      cases h
    | some x =>
      rw [hc] at h
      cases x with
      | lst xs =>
        obtain ⟨_, vs, e2, l⟩ := r.cell n a _ q hc
        cases h
        exact ⟨_, rfl, .base (.base (.lst e2))⟩
      | dct xs =>
        obtain ⟨_, vs, e2, l⟩ := r.cell n a _ q hc
        cases h
        exact ⟨_, rfl, .base (.base (.dK e2))⟩
      | _ => cases h
  | _ => cases h
theorem clsT_rep {ι : List Addr} {F : Hp} {d : D} {v : V} {t : Ty} (h : clsT d = some t) (hv : RepV K mg ι F d v) : ∃ u, valT mg t = some u ∧ ClsV v u := by
  cases d with
  | ty n =>
    obtain rfl : v = .ty n := hv
    cases h
    exact ⟨_, rfl, .ty n⟩
  | cls C =>
    obtain ⟨a, rfl, g⟩ := hv
    cases h
    exact ⟨_, g, .own a⟩
  | _ => cases h
theorem clsL_rep {ι : List Addr} {F : Hp} : ∀ {ds : List D} {vs : List V} {ts : List Ty}, clsL ds = some ts → RepL K mg ι F ds vs → ∃ us, Paired (fun t u => valT mg t = some u) ts us ∧ Paired ClsV vs us
  | [], _, _, h, hv => by
    have z : _ = [] := hv
    rw [z]
    cases h
    exact ⟨[], .nil, .nil⟩
  | d :: ds, _, _, h, hv => by
    obtain ⟨v, w, rfl, q, l⟩ := hv
    unfold clsL at h
    split at h
    · rename_i t ts h1 h2
      cases h
      obtain ⟨u, e1, e2⟩ := clsT_rep h1 q
      obtain ⟨us, e3, e4⟩ := clsL_rep h2 l
      exact ⟨u :: us, .cons e1 e3, .cons e2 e4⟩
    · cases h
theorem anyK_ok {kt : Ty → Ty → Option Bool} (ks : KitS K mg kt) {t : Ty} {vt : Value} (ht : valT mg t = some vt) : ∀ {ts : List Ty} {us : List Value} {b : Bool}, anyK kt t ts = some b → Paired (fun t u => valT mg t = some u) ts us → PySem.W.kitAny K vt us = some b
  | [], _, _, h, .nil => by
    cases h
    rfl
  | t' :: ts, u :: us, b, h, .cons e l => by
    unfold anyK at h
    unfold PySem.W.kitAny
    cases hk : kt t t' with
    | none =>
      rw [hk] at h
      cases h
    | some r =>
      rw [hk] at h
      rw [ks.kit t t' r vt u hk ht e]
      cases r with
      | true =>
        cases h
        rfl
      | false => exact anyK_ok ks ht h l
theorem cf_isi {kt : Ty → Ty → Option Bool} (ks : KitS X.K mg kt) : CallF X mg (.builtin "isinstance") (isiD kt) := by
  refine ⟨_, call_isiZ, fun c xs d vs Q rc hv e k => ?_⟩
  unfold isiD at e
  split at e
  · rename_i x y
    obtain ⟨v, w, rfl, h1, h2⟩ := repL2 hv
    split at e
    · rename_i t ht
      split at e
      · rename_i cs
        split at e
        · rename_i ts hts
          by_cases hemp : ts.isEmpty = true
          · rw [if_pos hemp] at e
            cases e
          · rw [if_neg hemp] at e
            cases hb : anyK kt t ts with
            | none =>
              rw [hb] at e
              cases e
            | some b =>
              rw [hb] at e
              cases e
              obtain ⟨tp, vs, rfl, q, l⟩ := tupOf_rep rc.rc (ds := cs) rfl h2
              obtain ⟨us, p1, p2⟩ := clsL_rep hts l
              have asked : ∃ u b, kt t u = some b := by
                cases ts with
                | nil => exact absurd rfl hemp
                | cons u ts =>
                  refine ⟨u, ?_⟩
                  unfold anyK at hb
                  cases hk : kt t u with
                  | none =>
                    rw [hk] at hb
                    cases hb
                  | some r => exact ⟨r, rfl⟩
              obtain ⟨vt, e1, e2⟩ := tag_ty ks rc.rc ht h1 asked
              exact ⟨v, _, vt, b, rfl, e2, k c rfl rfl rc Ext0.refl _ rfl, .inr ⟨tp, vs, us, rfl, q, p2, anyK_ok ks e1 hb p1⟩⟩
        · cases e
      · split at e
        · rename_i u hu
          cases hb : kt t u with
          | none =>
            rw [hb] at e
            cases e
          | some b =>
            rw [hb] at e
            cases e
            obtain ⟨vt, e1, e2⟩ := tag_ty ks rc.rc ht h1 ⟨u, b, hb⟩
            obtain ⟨vu, e3, e4⟩ := clsT_rep hu h2
            exact ⟨v, w, vt, b, rfl, e2, k c rfl rfl rc Ext0.refl _ rfl, .inl ⟨vu, e4, ks.kit t u b vt vu hb e1 e3⟩⟩
        · cases e
    · cases e
  · cases e
end
end Mir
/-! M14: exceptions of own classes as values. -/
namespace Mir
open PySem PySem.Spec PyProof.Rows L2
section
variable {X : Cx} {e : Expr} {es : List Expr} {ta : TA} {nb : Str} {p1 p2 pos : Pos}
/-- B.__init__(self, ..), B an own class under ValueError without an __init__ -/
theorem pe_binit {B : Addr} {pl : Sem Bool} (hg : Gl X nb) (hm : X.mg nb = some (.ref B)) (h1 : PySem.W.specialIn X.K (.ref B) "__getattribute__" = some (some (.builtin "type.__getattribute__"))) (h2 : PySem.W.readsIn X.K B (.type "type") = true)
    (h3 : PySem.W.findCls X.K (.ref B) (.type "type") "__init__" = some (.val (.builtin "ValueError.__init__"))) (ha : PA X (e :: es) ta) (hd : (nb == ("__debug__" : Str)) = false)
    (hc : eval (.Call (.Attribute (.Name nb p1) "__init__" p2) (e :: es) [] pos) X.env = (do
      let ov ← eval (.Name nb p1) X.env
      standAt p2.atName
      let (f, first) ← holding [ov] (getMethod ov "__init__" pl)
      callWith pos f first (backTo pos (starEach (e :: es) X.env)) (backToKw pos (keywordEach [] X.env))))
    (he : starEach (e :: es) X.env = (false, eval e X.env) :: starEach es X.env) (hpl : (backTo pos (starEach es X.env)).any (·.1) = false) :
    PE X (.Call (.Attribute (.Name nb p1) "__init__" p2) (e :: es) [] pos) (tVeI X.K ta) := by
  refine ⟨fun pins s σ H Q I h => ?_⟩
  refine PySem.W.methodCall_KW (ld_glob I hg hm ?_ hd) hc
  refine PySem.W.method_cls I.kIn h1 (PySem.W.cls_value I.kIn h2 h3 rfl ?_)
  show wpAny _ _ (callWith pos (Value.builtin "ValueError.__init__") [] (backTo pos (starEach (e :: es) X.env)) []) _ _ _
  refine PyProof.Rows.callWith_method1 (thn (ha.run pos pins _ σ H _ (I.tok _) h) fun us s1 ⟨vs, H1, I1, r1, a, C, ws, ev, hl, T, ea, q⟩ => ?_) he hpl
  subst ev
  cases r1 with
  | @cons _ u0 _ ur ra rest =>
    obtain rfl : u0 = Value.ref a := ra
    have room : ur.length ≤ sizeLine := by
      have e1 := Paired.length rest
      rw [sizeLine_eq]
      omega
    exact oinit_ok T I1 ea room fun s' J => ⟨.non, H1, J, rfl, q⟩
end
/-- what an __init__ with one field keeps -/
def spInit (K : PySem.W.Frag) (f : Str) : Sp := fun vs H Q _ => ∃ (a C : Addr) (y : V), vs = [.ref a, y] ∧ OexC K C ∧ PySem.W.findIn K (.ref C) f = some none ∧ H a = some (exo a C none) ∧
  ∀ dx, H dx = none → dx ≠ a → Q .non (upd (upd H dx (exd dx [(f, y)])) a (exo a C (some dx)))
/-- what an __init__ with no field keeps -/
def spInit0 (K : PySem.W.Frag) : Sp := fun vs H Q _ => ∃ (a C : Addr), vs = [.ref a] ∧ OexC K C ∧ H a = some (exo a C none) ∧ Q .non H
/-- what the written part says of a base class -/
structure BasC (K : PySem.W.Frag) (mg : Str → Option Value) (nb : Str) : Prop where
  is : ∃ B : Addr, mg nb = some (.ref B) ∧ PySem.W.specialIn K (.ref B) "__getattribute__" = some (some (.builtin "type.__getattribute__")) ∧ PySem.W.readsIn K B (.type "type") = true ∧
    PySem.W.findCls K (.ref B) (.type "type") "__init__" = some (.val (.builtin "ValueError.__init__"))
section
variable {P : Program} {w : World} {K : PySem.W.Frag} {mg : Str → Option Value} {base : Heap} {f : Addr} {fd : FuncData} {x qual nb txt fl v : Str} {st : Stmt} {p1 p2 p3 p4 p5 p6 q1 q2 q3 q4 : Pos} {j : Nat}
theorem init_ok (F : Fun K x qual st f fd) (B : BasC K mg nb) (S : FnScope ["self", v] ["self", v] (defScope st))
    (hbody : defBody st = [.Expr (.Call (.Attribute (.Name nb p1) "__init__" p2) [.Name "self" p3, .Constant (.str txt) j p4] [] p5) p6, .Assign [.Attribute (.Name "self" q1) fl q2] (.Name v q3) q4]) (hgl : ∀ X : Cx, X.env.scope = defScope st → Gl X nb) (hdn : (nb == ("__debug__" : Str)) = false) {pl : Env → Sem Bool}
    (hc : ∀ env : Env, eval (.Call (.Attribute (.Name nb p1) "__init__" p2) [.Name "self" p3, .Constant (.str txt) j p4] [] p5) env = (do
      let ov ← eval (.Name nb p1) env
      standAt p2.atName
      let (f, first) ← holding [ov] (getMethod ov "__init__" (pl env))
      callWith p5 f first (backTo p5 (starEach [.Name "self" p3, .Constant (.str txt) j p4] env)) (backToKw p5 (keywordEach [] env))))
    (hs : (defScope st).names.lookup ("self" : Str) = some NameKind.local) (hv : (defScope st).names.lookup v = some NameKind.local) (hv1 : (v == ("__debug__" : Str)) = false) (hv2 : (v == ("__classdict__" : Str)) = false) : FnOk P w K mg base CX0 1 f fd ["self", v] (spInit K fl) := by
  refine F.ok S (fun vs H Q E h => ?_) (fun cdv A outer s H vs Q E hr h => ?_)
  · obtain ⟨a, C, y, rfl, _⟩ := h
    rfl
  · obtain ⟨Bc, b1, b2, b3, b4⟩ := B.is
    rw [hbody]
    refine ⟨_, pss_cons (ps_expr (pe_binit (hgl _ rfl) b1 b2 b3 b4 (pa_cons (pe_var (i := 0) rfl (.inl hs)) (pa_cons pe_str pa_nil)) hdn (hc _) rfl rfl)) (pss_one (ps_ost (pe_var (i := 0) rfl (.inl hs)) (pe_var (i := 1) rfl (.inl hv) hv1 hv2))), ?_⟩
    obtain ⟨a, C, y, rfl, T, hno, ea, k⟩ := h
    refine ⟨_, rfl, a, C, _, rfl, (show 1 ≤ 1000 by decide), T, ea, ?_⟩
    exact ⟨y, rfl, _, rfl, a, C, rfl, T, hno, .inl ⟨ea, fun dx n ne => k dx n ne⟩⟩
theorem init0_ok (F : Fun K x qual st f fd) (B : BasC K mg nb) (S : FnScope ["self"] ["self"] (defScope st))
    (hbody : defBody st = [.Expr (.Call (.Attribute (.Name nb p1) "__init__" p2) [.Name "self" p3, .Constant (.str txt) j p4] [] p5) p6]) (hgl : ∀ X : Cx, X.env.scope = defScope st → Gl X nb) (hdn : (nb == ("__debug__" : Str)) = false) {pl : Env → Sem Bool}
    (hc : ∀ env : Env, eval (.Call (.Attribute (.Name nb p1) "__init__" p2) [.Name "self" p3, .Constant (.str txt) j p4] [] p5) env = (do
      let ov ← eval (.Name nb p1) env
      standAt p2.atName
      let (f, first) ← holding [ov] (getMethod ov "__init__" (pl env))
      callWith p5 f first (backTo p5 (starEach [.Name "self" p3, .Constant (.str txt) j p4] env)) (backToKw p5 (keywordEach [] env))))
    (hs : (defScope st).names.lookup ("self" : Str) = some NameKind.local) : FnOk P w K mg base CX0 1 f fd ["self"] (spInit0 K) := by
  refine F.ok S (fun vs H Q E h => ?_) (fun cdv A outer s H vs Q E hr h => ?_)
  · obtain ⟨a, C, rfl, _⟩ := h
    rfl
  · obtain ⟨Bc, b1, b2, b3, b4⟩ := B.is
    rw [hbody]
    refine ⟨_, pss_one (ps_expr (pe_binit (hgl _ rfl) b1 b2 b3 b4 (pa_cons (pe_var (i := 0) rfl (.inl hs)) (pa_cons pe_str pa_nil)) hdn (hc _) rfl rfl)), ?_⟩
    obtain ⟨a, C, rfl, T, ea, k⟩ := h
    exact ⟨_, rfl, a, C, _, rfl, (show 1 ≤ 1000 by decide), T, ea, k⟩
end
/-! ### an instance, as a value -/
def tMkV (C : Addr) (sp : Sp) (ta : TA) : TE := fun σ H Q => ta σ H fun vs H1 => vs.length ≤ 1000 ∧ ∀ a, H1 a = none → sp (.ref a :: vs) (upd H1 a (exo a C none)) (fun v H2 => v = .non ∧ Q (.ref a) H2) (fun _ _ _ => False)
/-- what the written part says of an exception class: the class, its __init__ -/
structure MkE (X : Cx) (xn : Str) (C : Addr) (ps : List Str) (sp : Sp) : Prop where
  T : OexC X.K C
  g : X.mg xn = some (.ref C)
  init : ∃ (fI : Addr) (fd : FuncData), PySem.W.findIn X.K (.ref C) "__init__" = some (some (.ref fI)) ∧ PySem.W.typeIn X.K (.ref fI) = some (.type "function") ∧ FnOk X.prog X.w X.K X.mg X.base CX0 1 fI fd ps sp ∧ Binds X.K fd ps []
section
variable {X : Cx} {e : Expr} {es : List Expr} {ta : TA} {xn : Str} {C : Addr} {ps : List Str} {sp : Sp} {p pos : Pos} {j : Nat}
theorem run_made {pins : List (Addr × Obj)} {σ : L2.St} {H1 : Hp} {s1 : Shared} {us : List Value} {vs : List V} {Q : VK} (M : MkE X xn C ps sp) (hr : Room j X.A) (hj : 2 ≤ j) (I1 : Inv X pins σ H1 s1) (r1 : Vals vs us) (hz : vs.length ≤ 1000)
    (q1 : ∀ a, H1 a = none → sp (.ref a :: vs) (upd H1 a (exo a C none)) (fun v H2 => v = .non ∧ Q (.ref a) H2) (fun _ _ _ => False)) : wpAny (model X.prog X.w) X.A (call (.ref C) us) (EP X pins σ Q) X.xe s1 := by
  obtain ⟨T, hm, fI, fd, iC, tI, F1, hb⟩ := M
  obtain ⟨nm, q, N, bs, bm, sn, sub, ab, col, dd, k0, k1, k2, k3, k5, hC, hbm⟩ := T.cls
  obtain ⟨hp, g, dr, tk, os⟩ := s1
  have up : hp.objs.size ≤ hp.objs.size + 1 := Nat.le_succ _
  have q2 := q1 (hp.objs.size + 1) (I1.hok.fresh up)
  have kk : ∀ b o, hp.get? b = some o → ((hp.push (PySem.W.kdv_tup us)).push (PySem.HandSPX.excO C hp.objs.size)).get? b = some o := fun b o z => Heap.get?_push_of_some _ (Heap.get?_push_of_some _ z)
  have here : ((hp.push (PySem.W.kdv_tup us)).push (PySem.HandSPX.excO C hp.objs.size)).get? (hp.objs.size + 1) = some (PySem.HandSPX.excO C hp.objs.size) := by heap_get
  have I2 : Inv X pins σ (upd H1 (hp.objs.size + 1) (exo (hp.objs.size + 1) C none)) ⟨(hp.push (PySem.W.kdv_tup us)).push (PySem.HandSPX.excO C hp.objs.size), g, dr, tk, os⟩ :=
    I1.laid (t' := tk) (a := hp.objs.size + 1) (o := exo (hp.objs.size + 1) C none) kk up (exo_ok here)
  have r2 : Vals (V.ref (hp.objs.size + 1) :: vs) (Value.ref (hp.objs.size + 1) :: us) := .cons rfl r1
  have len2 : (Value.ref (hp.objs.size + 1) :: us ++ []).length = ps.length := by
    rw [List.append_nil, ← r2.length]
    exact F1.len _ _ _ _ q2
  have few : us.length ≤ sizeLine := by
    rw [← Paired.length r1, sizeLine_eq]
    omega
  refine wpAny_call (PySem.HandSPX.call_own F.excBase_ValueError (fun Y => PySem.HandSPX.refsVE_contains Y bm hbm) (I1.kIn _ _ hC) (PySem.W.looks_findIn I1.kIn iC) (fun self => PySem.W.bind_fn I1.kIn self tI) few ?_)
  refine codeAny_mono (F1.run _ X.stack _ _ ⟨Value.ref (hp.objs.size + 1) :: us, []⟩ (Value.ref (hp.objs.size + 1) :: us) _ _ (fun _ _ _ => False) ((hr.mono hj).make C us []) (I2.env0.make C us []) ?_ r2 q2) fun r s' got => ?_
  · have z := hb ⟨(hp.push (PySem.W.kdv_tup us)).push (PySem.HandSPX.excO C hp.objs.size), g, dr, tk, os⟩ (Value.ref (hp.objs.size + 1) :: us) I2.kIn len2
    rwa [List.append_nil] at z
  · cases r with
    | error er => exact got.elim
    | ok fl =>
      cases fl with
      | ret u =>
        obtain ⟨v, H2, J, rv, ev, q3⟩ := I2.after got
        subst ev
        obtain rfl : u = Value.none := rv
        exact ⟨rfl, .ref _, H2, J, rfl, q3⟩
      | next => exact got.elim
      | brk => exact got.elim
      | cont => exact got.elim
theorem pe_oex (M : MkE X xn C ps sp) (hr : Room j X.A) (hj : 2 ≤ j) (hg : Gl X xn) (ha : PA X (e :: es) ta) (hdb : (xn == ("__debug__" : Str)) = false := by decide) (he : starEach (e :: es) X.env = (false, eval e X.env) :: starEach es X.env := by rfl)
    (hpl : (backTo pos (starEach es X.env)).any (·.1) = false := by rfl) : PE X (.Call (.Name xn p) (e :: es) [] pos) (tMkV C sp ta) := by
  refine ⟨fun pins s σ H Q I h => ?_⟩
  refine wpAny_Call_Name_kw (ld_glob I hg M.g ?_ hdb)
  exact PySem.W.callWith_K (h₀ := X.base) I.ok.mod.kin M.T.kC (thn (ha.run pos pins s σ H _ I h) fun us s1 ⟨vs, H1, I1, r1, hz, q1⟩ => ⟨I1.kIn, run_made M hr hj I1 r1 hz q1⟩) he hpl
theorem pe_oex0 (M : MkE X xn C ps sp) (hr : Room j X.A) (hj : 2 ≤ j) (hg : Gl X xn) (hdb : (xn == ("__debug__" : Str)) = false := by decide) : PE X (.Call (.Name xn p) [] [] pos) (tMkV C sp tNil) := by
  refine ⟨fun pins s σ H Q I h => ?_⟩
  refine wpAny_Call_Name_kw (ld_glob I hg M.g ?_ hdb)
  exact PySem.W.callWith_K0 I.kIn M.T.kC (run_made M hr hj I .nil h.1 h.2)
variable {mg : Str → Option Value} {W : WX} {ma : M D} {fl : Str}
def excM (xn fl : Str) (ma : M D) : M D := bindM ma fun d => pureM (.exc xn [fl] [d])
theorem me_exc (M : MkE X xn C ps (spInit X.K fl)) (hno : PySem.W.findIn X.K (.ref C) fl = some none) (hm' : mg xn = some (.ref C)) (hr : Room j X.A) (hg : Gl X xn) (ha : PE X e (T X.K mg W ma)) (hj : 2 ≤ j := by decide) (hdb : (xn == ("__debug__" : Str)) = false := by decide)
    (he : starEach (e :: []) X.env = (false, eval e X.env) :: starEach [] X.env := by rfl) (hpl : (backTo pos (starEach [] X.env)).any (·.1) = false := by rfl) : PE X (.Call (.Name xn p) [e] [] pos) (T X.K mg W (excM xn fl ma)) := by
  refine PE.imp (pe_oex M hr hj hg (pa_cons ha pa_nil he) hdb he hpl) fun σ H Q q => ?_
  obtain ⟨c, rfl, rfl, rc, z⟩ := q
  refine ⟨c, rfl, rfl, rc, (Post.bind (m := ma c.s) z).mono fun d c1 e1 r1 x1 z1 v hv => ?_⟩
  refine ⟨(show 1 ≤ 1000 by decide), fun a ha => ⟨a, C, v, rfl, M.T, hno, upd_same, fun dx hd ne => ⟨rfl, ?_⟩⟩⟩
  have hd1 : c1.h.H dx = none := by
    rw [upd_ne ne] at hd
    exact hd
  have ha2 : (c1.frz dx (exd dx [(fl, v)])).h.H a = none := by
    show (upd c1.h.H dx _) a = none
    rw [upd_ne (Ne.symm ne)]
    exact ha
  have r2 : Rep X.K mg (c1.frz dx (exd dx [(fl, v)])) := r1.frz hd1
  have x2 : Ext c1 (c1.frz dx (exd dx [(fl, v)])) := Ext.frz r1 hd1
  have x3 := x2.trans (Ext.frz (o := exo a C (some dx)) r2 ha2)
  have eH : ((c1.frz dx (exd dx [(fl, v)])).frz a (exo a C (some dx))).h.H = upd (upd (upd c1.h.H a (exo a C none)) dx (exd dx [(fl, v)])) a (exo a C (some dx)) := by
    funext b
    show (upd (upd c1.h.H dx _) a _) b = _
    by_cases hb : b = a
    · rw [hb, upd_same, upd_same]
    · rw [upd_ne hb, upd_ne hb]
      by_cases hb2 : b = dx
      · rw [hb2, upd_same, upd_same]
      · rw [upd_ne hb2, upd_ne hb2, upd_ne hb]
  have fin := z1 ((c1.frz dx (exd dx [(fl, v)])).frz a (exo a C (some dx))) rfl rfl (r2.frz ha2) x3 (.ref a) ⟨a, C, some dx, [v], rfl, hm', upd_same, fun y hy => by
    cases hy
    show (upd (upd c1.h.F dx _) a _) dx = _
    rw [upd_ne ne, upd_same]
    rfl, RepL.one (x3.repV hv)⟩
  rw [eH] at fin
  exact fin
end
end Mir
/-! M15: texts walked, calls without arguments, keywords by places. -/
namespace Mir
open PySem PySem.Spec PyProof.Rows L2
def signsL (x : Str) : List D := x.cps.toList.map fun c => .str ⟨#[c]⟩
def signsM (m : M D) : M (List D) := bindM m fun x s => match x with
  | .str z => .ok (signsL z) s
  | _ => .bad
section
variable {K : PySem.W.Frag} {mg : Str → Option Value} {W : WX} {X : Cx} {c c1 : Cfg} {tg e : Expr} {ma : M D}
theorem itok_str {x : Str} : ItOk K mg (Its x) c (signsL x) := by
  have len : (signsL x).length = x.cps.size := by simp [signsL]
  refine ⟨fun c' i r y h => by rw [len] at h; exact h, fun c' r y => by rw [len]; exact Nat.le_refl _, fun c' i v H' d r y h z => ?_⟩
  obtain ⟨rfl, n, h1, rfl⟩ := z
  unfold signsL at h
  rw [List.getElem?_map] at h
  have e : x.cps.toList[i]? = some n := by rw [Array.getElem?_toList]; exact h1
  rw [e] at h
  cases h
  exact ⟨c', rfl, rfl, rfl, r, Ext0.refl, rfl⟩
theorem mi_str (h : PE X e (T X.K mg W ma)) : PI X tg e (TIm X.K mg W (signsM ma)) := by
  refine PI.imp (pi_str h) fun σ H R q => ?_
  obtain ⟨c, rfl, rfl, rc, p⟩ := q
  refine ⟨c, rfl, rfl, rc, (Post.bind (m := ma c.s) p).mono fun x c1 e1 r1 x1 p1 v hv => ?_⟩
  cases x with
  | str z =>
    obtain rfl : v = .str z := hv
    exact ⟨z, rfl, p1.now r1 _ itok_str⟩
  | _ => exact p1.elim
variable {f : Addr} {fd : FuncData} {ps : List Str} {k ar : Nat} {m : MF} {x : Str} {p pos : Pos}
theorem me_call0 (F : FnG X.prog X.w X.K X.mg X.base k f fd ps (SpM X.K mg ar m)) (hmb : ∀ xs st, m xs st ≠ .bad → xs.length = ar) (hr : Room k X.A) (hgd : X.A.guards = some []) (tk : Takes X W) (hg : Gl X x) (hm : X.mg x = some (.ref f)) (hk : PySem.W.keepIn X.K (.ref f) = true) (hb : Binds X.K fd ps [])
    (hdb : (x == ("__debug__" : Str)) = false := by decide) : PE X (.Call (.Name x p) [] [] pos) (T X.K mg W (callM m (pureM []))) := by
  refine PE.imp (pe_callG0 F hr hgd hg hm hk hb .nil (fun σ => passAt tk σ) hdb) fun σ H Q h => ?_
  have q := callM_core (fun _ xs s _ z => hmb xs s.st z) h
  obtain ⟨c, rfl, rfl, rc, p⟩ := q
  exact Post.now (c := c) p rc [] rfl
end
/-- keywords by places: the i-th parameter is the ix[i]-th of what is written -/
def pick (ix : List Nat) {α : Type} (us ws : List α) : List α := ix.filterMap fun i => (us ++ ws)[i]?
theorem pick_rel (ix : List Nat) : RelG (@fun α => pick ix) := by
  refine ⟨fun {vs us zs ws} h k => ?_, fun K mg ι F {ds vs es ws} h k => ?_⟩
  · have hh := h.append k
    show Vals (ix.filterMap fun i => (vs ++ zs)[i]?) (ix.filterMap fun i => (us ++ ws)[i]?)
    induction ix with
    | nil => exact .nil
    | cons i ix ih =>
      simp only [List.filterMap_cons]
      cases e : (vs ++ zs)[i]? with
      | none =>
        have e2 : (us ++ ws)[i]? = none := by
          rw [List.getElem?_eq_none_iff] at e ⊢
          rw [← hh.length]
          exact e
        rw [e2]
        exact ih
      | some v =>
        obtain ⟨u, hu, ru⟩ := hh.get e
        rw [hu]
        exact .cons ru ih
  · have hh := RepL.append h k
    show RepL K mg ι F (ix.filterMap fun i => (ds ++ es)[i]?) (ix.filterMap fun i => (vs ++ ws)[i]?)
    induction ix with
    | nil => exact (rfl : ([] : List V) = [])
    | cons i ix ih =>
      simp only [List.filterMap_cons]
      cases e : (ds ++ es)[i]? with
      | none =>
        have e2 : (vs ++ ws)[i]? = none := by
          rw [List.getElem?_eq_none_iff] at e ⊢
          rw [← RepL.length hh]
          exact e
        rw [e2]
        exact ih
      | some d =>
        obtain ⟨v, hv, rv⟩ := RepL.get hh e
        rw [hv]
        exact ⟨v, _, rfl, rv, ih⟩
end Mir
/-! M16: what the printed walks lean on. -/
namespace Mir
open PySem PySem.Spec PyProof.Rows L2
theorem gl_of {sc : Scope} {x : Str} (h : sc.names.lookup x = some .globalImplicit) (X : Cx) (e : X.env.scope = sc) : Gl X x := by
  show X.env.kindOf x = _
  rw [← e] at h
  exact h
theorem mt_w {X : Cx} {e : Expr} {t : TT} (h : PW X e t) : PT X e t := h.pt
section
variable {K : PySem.W.Frag} {mg : Str → Option Value} {W : WX} {X : Cx} {x : Str} {pos : Pos}
theorem me_gI {i : Int} {t : Tok} (hg : Gl X x) (hm : X.mg x = some (.int i t)) (hb : (x == ("__debug__" : Str)) = false := by decide) : PE X (.Name x pos) (T K mg W (pureM (.int i))) := me_glob (v := .int i) hg hm ⟨t, rfl⟩ (fun _ _ => rfl) hb
theorem me_gS {i : Str} {t : Tok} (hg : Gl X x) (hm : X.mg x = some (.str i t)) (hb : (x == ("__debug__" : Str)) = false := by decide) : PE X (.Name x pos) (T K mg W (pureM (.str i))) := me_glob (v := .str i) hg hm ⟨t, rfl⟩ (fun _ _ => rfl) hb
end
def ktO (exs : List Str) : Ty → Ty → Option Bool
  | .b a, .b c => ktB a c
  | .o C, .b n => if C ∈ exs ∧ n ∈ tysB then some false else none
  | _, _ => none
theorem meta_all : ∀ n ∈ tysB, PySem.W.kitMeta n = true ∧ PySem.HandSPX.veTail.contains (.type n) = false := by decide +kernel
theorem oex_kit {K : PySem.W.Frag} {C : Addr} {n : String} (T : OexC K C) (h : n ∈ tysB) : PySem.W.kitOne K (.ref C) (.type n) = some false := by
  obtain ⟨nm, q, N, bs, bm, sn, sub, ab, col, dd, k0, k1, k2, k3, k5, hC, hbm⟩ := T.cls
  obtain ⟨h1, h2⟩ := meta_all n h
  have hcl : PySem.W.clsIn K C = some { name := nm, bases := bs, mro := .ref C :: bm, ns := N, qualname := q, hasDict := true, slotNames := sn, subclasses := sub, abstract := ab, collection := col, hasDel := false } := by
    unfold PySem.W.clsIn
    rw [hC] <;> rfl
  have e1 : (Value.ref C == Value.type n) = false := rfl
  unfold PySem.W.kitOne
  rw [e1, if_neg Bool.false_ne_true]
  show (if PySem.W.kitMeta n = true then PySem.W.subIn K (.ref C) (.type n) else none) = some false
  rw [if_pos h1]
  show (PySem.W.clsIn K C).bind _ = some false
  rw [hcl]
  have e2 : (Value.ref C :: bm).contains (.type n) = false := by
    rw [List.contains_cons, PySem.HandSPX.refsVE_contains n bm hbm, h2]
    rfl
  show some ((Value.ref C :: bm).contains (.type n)) = some false
  rw [e2]
theorem kitS_of {K : PySem.W.Frag} {mg : Str → Option Value} (exs : List Str) (h : ∀ (C : Str) (ca : Addr), C ∈ exs → mg C = some (.ref ca) → OexC K ca) (h' : ∀ (C : Str) (ca : Addr), C ∈ exs → mg C = some (.ref ca) → ExcC K ca)
    (hr : ∀ C ∈ exs, ∃ ca, mg C = some (.ref ca)) : KitS K mg (ktO exs) := by
  refine ⟨fun t c b vt vc e h1 h2 => ?_, fun C c b ca e g => ?_⟩
  · cases t with
    | b x =>
      cases c with
      | b y =>
        cases h1
        cases h2
        exact ktB_ok e
      | o y => cases e
    | o x =>
      cases c with
      | b y =>
        cases h2
        have e' : (if x ∈ exs ∧ y ∈ tysB then some false else none) = some b := e
        by_cases z : x ∈ exs ∧ y ∈ tysB
        · rw [if_pos z] at e'
          cases e'
          obtain ⟨ca, g⟩ := hr x z.1
          have z2 := g.symm.trans h1
          cases z2
          exact oex_kit (h x ca z.1 g) z.2
        · rw [if_neg z] at e'
          cases e'
      | o y => cases e
  · cases c with
    | b y =>
      have e' : (if C ∈ exs ∧ y ∈ tysB then some false else none) = some b := e
      by_cases z : C ∈ exs ∧ y ∈ tysB
      · exact h' C ca z.1 g
      · rw [if_neg z] at e'
        cases e'
    | o y => cases e
end Mir
/-! M17: what a mirror gives: rules from the left, with what goes on behind. -/
namespace Mir
open PySem
abbrev SL := List (Option SV)
/-- an expression's mirror gives, in slots that stay -/
def GeD {α : Type} (m : M α) (sl : SL) (st : List Cell) (P : α → List Cell → Prop) (E : Ex → List Cell → Prop) : Prop := match m ⟨sl, st⟩ with
  | .ok a s => s.sl = sl ∧ P a s.st
  | .exc x s => s.sl = sl ∧ E x s.st
  | .bad => False
structure Ge {α : Type} (m : M α) (sl : SL) (st : List Cell) (P : α → List Cell → Prop) (E : Ex → List Cell → Prop) : Prop where
  is : GeD m sl st P E
/-- a statement's ends -/
structure En where
  nx : SL → List Cell → Prop
  rt : D → List Cell → Prop
  bk : SL → List Cell → Prop := fun _ _ => False
  ct : SL → List Cell → Prop := fun _ _ => False
  xx : Ex → SL → List Cell → Prop := fun _ _ _ => False
def GsD (m : MS) (sl : SL) (st : List Cell) (N : En) : Prop := match m ⟨sl, st⟩ with
  | .next s => N.nx s.sl s.st
  | .ret d s => N.rt d s.st
  | .brk s => N.bk s.sl s.st
  | .cont s => N.ct s.sl s.st
  | .exc x s => N.xx x s.sl s.st
  | .bad => False
structure Gs (m : MS) (sl : SL) (st : List Cell) (N : En) : Prop where
  is : GsD m sl st N
def GfD (f : MF) (xs : List D) (st : List Cell) (P : D → List Cell → Prop) (E : Ex → List Cell → Prop) : Prop := match f xs st with
  | .ok d st' => P d st'
  | .exc x st' => E x st'
  | .bad => False
structure Gf (f : MF) (xs : List D) (st : List Cell) (P : D → List Cell → Prop) (E : Ex → List Cell → Prop) : Prop where
  is : GfD f xs st P E
section
variable {α β : Type} {m m1 m2 : M D} {ms mk : M (List D)} {tA tB : M Bool} {sl : SL} {st : List Cell} {E : Ex → List Cell → Prop}
theorem Gf.mono {f : MF} {xs : List D} {P P' : D → List Cell → Prop} {E' : Ex → List Cell → Prop} (h : Gf f xs st P E) (k : ∀ d st', P d st' → P' d st') (k2 : ∀ x st', E x st' → E' x st') : Gf f xs st P' E' := by
  refine ⟨?_⟩
  replace h := h.is
  unfold GfD at h ⊢
  cases e : f xs st with
  | ok d st' =>
    rw [e] at h
    exact k _ _ h
  | exc x st' =>
    rw [e] at h
    exact k2 _ _ h
  | bad =>
    rw [e] at h
    exact h
theorem Ge.mono {m : M α} {P P' : α → List Cell → Prop} {E' : Ex → List Cell → Prop} (h : Ge m sl st P E) (k : ∀ d st', P d st' → P' d st') (k2 : ∀ x st', E x st' → E' x st') : Ge m sl st P' E' := by
  refine ⟨?_⟩
  replace h := h.is
  unfold GeD at h ⊢
  cases e : m ⟨sl, st⟩ with
  | ok d s =>
    rw [e] at h
    exact ⟨h.1, k _ _ h.2⟩
  | exc x s =>
    rw [e] at h
    exact ⟨h.1, k2 _ _ h.2⟩
  | bad =>
    rw [e] at h
    exact h
theorem ge_pure {a : α} {P : α → List Cell → Prop} (h : P a st) : Ge (pureM a) sl st P E := ⟨⟨rfl, h⟩⟩
theorem ge_bind {m : M α} {f : α → M β} {P : β → List Cell → Prop} (h : Ge m sl st (fun a st' => Ge (f a) sl st' P E) E) : Ge (bindM m f) sl st P E := by
  refine ⟨?_⟩
  replace h := h.is
  unfold GeD at h ⊢
  unfold bindM R.bind
  cases e : m ⟨sl, st⟩ with
  | ok a s =>
    rw [e] at h
    obtain ⟨h1, h2⟩ := h
    obtain ⟨l, t⟩ := s
    dsimp only at h1 h2 ⊢
    subst h1
    exact h2.is
  | exc x s =>
    rw [e] at h
    exact h
  | bad =>
    rw [e] at h
    exact h
theorem ge_var {i : Nat} {d : D} {P : D → List Cell → Prop} (e : sl[i]? = some (some (.val d))) (h : P d st) : Ge (varM i) sl st P E := by
  refine ⟨?_⟩
  unfold GeD varM
  dsimp only
  rw [e]
  exact ⟨rfl, h⟩
theorem ge_op {f : List Cell → D → D → Option D} {P : D → List Cell → Prop} (h : Ge m1 sl st (fun x st1 => Ge m2 sl st1 (fun y st2 => ∃ d, f st2 x y = some d ∧ P d st2) E) E) : Ge (opM f m1 m2) sl st P E := by
  refine ge_bind (h.mono (fun x st1 h1 => ge_bind (h1.mono (fun y st2 h2 => ?_) fun _ _ z => z)) fun _ _ z => z)
  obtain ⟨d, e, p⟩ := h2
  refine ⟨?_⟩
  unfold GeD
  dsimp only
  rw [e]
  exact ⟨rfl, p⟩
theorem ge_un {f : List Cell → D → Option D} {P : D → List Cell → Prop} (h : Ge m1 sl st (fun x st1 => ∃ d, f st1 x = some d ∧ P d st1) E) : Ge (unM f m1) sl st P E := by
  refine ge_bind (h.mono (fun x st1 h2 => ?_) fun _ _ z => z)
  obtain ⟨d, e, p⟩ := h2
  refine ⟨?_⟩
  unfold GeD
  dsimp only
  rw [e]
  exact ⟨rfl, p⟩
theorem ge_fn {f : List Cell → List D → Option D} {P : D → List Cell → Prop} (h : Ge ms sl st (fun x st1 => ∃ d, f st1 x = some d ∧ P d st1) E) : Ge (fnM f ms) sl st P E := by
  refine ge_bind (h.mono (fun x st1 h2 => ?_) fun _ _ z => z)
  obtain ⟨d, e, p⟩ := h2
  refine ⟨?_⟩
  unfold GeD
  dsimp only
  rw [e]
  exact ⟨rfl, p⟩
theorem ge_cons {P : List D → List Cell → Prop} (h : Ge m sl st (fun x st1 => Ge ms sl st1 (fun xs st2 => P (x :: xs) st2) E) E) : Ge (consM m ms) sl st P E :=
  ge_bind (h.mono (fun x st1 h1 => ge_bind (h1.mono (fun y st2 h2 => ge_pure h2) fun _ _ z => z)) fun _ _ z => z)
theorem ge_met {f : List Cell → Str → D → Option D} {P : D → List Cell → Prop} (h : Ge m1 sl st (fun x st1 => ∃ a, x = .str a ∧ Ge m2 sl st1 (fun y st2 => ∃ d, f st2 a y = some d ∧ P d st2) E) E) : Ge (metM f m1 m2) sl st P E := by
  refine ge_bind (h.mono (fun x st1 h1 => ?_) fun _ _ z => z)
  obtain ⟨a, rfl, h1⟩ := h1
  refine ge_bind (h1.mono (fun y st2 h2 => ?_) fun _ _ z => z)
  obtain ⟨d, e, p⟩ := h2
  refine ⟨?_⟩
  unfold GeD
  dsimp only
  rw [e]
  exact ⟨rfl, p⟩
theorem ge_call {f : MF} {P : D → List Cell → Prop} (h : Ge ms sl st (fun xs st1 => Gf f xs st1 P E) E) : Ge (callM f ms) sl st P E := by
  refine ge_bind (h.mono (fun xs st1 h1 => ?_) fun _ _ z => z)
  replace h1 := h1.is
  unfold GfD at h1
  refine ⟨?_⟩
  unfold GeD
  dsimp only
  cases e : f xs st1 with
  | ok d t =>
    rw [e] at h1
    exact ⟨rfl, h1⟩
  | exc x t =>
    rw [e] at h1
    exact ⟨rfl, h1⟩
  | bad =>
    rw [e] at h1
    exact h1
theorem ge_kw {f : MF} {n k : Nat} {g : List D → List D → List D} {P : D → List Cell → Prop} (h : Ge ms sl st (fun xs st1 => Ge mk sl st1 (fun zs st2 => (xs.length = n ∧ zs.length = k) ∧ Gf f (g xs zs) st2 P E) E) E) : Ge (kwM f n k g ms mk) sl st P E := by
  refine ge_bind (h.mono (fun xs st1 h1 => ge_bind (h1.mono (fun zs st2 h2 => ?_) fun _ _ z => z)) fun _ _ z => z)
  obtain ⟨hl, h2⟩ := h2
  replace h2 := h2.is
  unfold GfD at h2
  refine ⟨?_⟩
  unfold GeD
  dsimp only
  rw [decide_eq_true hl]
  dsimp only
  cases e : f (g xs zs) st2 with
  | ok d t =>
    rw [e] at h2
    exact ⟨rfl, h2⟩
  | exc x t =>
    rw [e] at h2
    exact ⟨rfl, h2⟩
  | bad =>
    rw [e] at h2
    exact h2
theorem ge_lst {P : D → List Cell → Prop} (h : Ge ms sl st (fun xs st1 => xs.length ≤ sizeLine ∧ P (.lst xs) st1) E) : Ge (lstM ms) sl st P E := by
  refine ge_bind (h.mono (fun xs st1 h1 => ?_) fun _ _ z => z)
  refine ⟨?_⟩
  unfold GeD
  dsimp only
  rw [decide_eq_true h1.1]
  exact ⟨rfl, h1.2⟩
theorem ge_lstL {P : List D → List Cell → Prop} (h : Ge ms sl st (fun xs st1 => xs.length ≤ sizeLine ∧ P xs st1) E) : Ge (lstL ms) sl st P E := by
  refine ge_bind (h.mono (fun xs st1 h1 => ?_) fun _ _ z => z)
  refine ⟨?_⟩
  unfold GeD
  dsimp only
  rw [decide_eq_true h1.1]
  exact ⟨rfl, h1.2⟩
theorem ge_tup {P : D → List Cell → Prop} (h : Ge ms sl st (fun xs st1 => xs.length ≤ sizeLine ∧ P (.tup xs) st1) E) : Ge (tupM ms) sl st P E := by
  refine ge_bind (h.mono (fun xs st1 h1 => ?_) fun _ _ z => z)
  refine ⟨?_⟩
  unfold GeD
  dsimp only
  rw [decide_eq_true h1.1]
  exact ⟨rfl, h1.2⟩
theorem ge_frz {P : D → List Cell → Prop} (h : Ge ms sl st (fun xs st1 => P (.lst xs) st1) E) : Ge (frzM ms) sl st P E :=
  ge_bind (h.mono (fun xs st1 h1 => ⟨⟨rfl, h1⟩⟩) fun _ _ z => z)
theorem ge_box {P : D → List Cell → Prop} (h : Ge ms sl st (fun xs st1 => P (.ref st1.length) (st1 ++ [.lst xs])) E) : Ge (boxM ms) sl st P E :=
  ge_bind (h.mono (fun xs st1 h1 => ⟨⟨rfl, h1⟩⟩) fun _ _ z => z)
theorem ge_exc {xn fl : Str} {P : D → List Cell → Prop} (h : Ge m sl st (fun d st1 => P (.exc xn [fl] [d]) st1) E) : Ge (excM xn fl m) sl st P E :=
  ge_bind (h.mono (fun xs st1 h1 => ge_pure h1) fun _ _ z => z)
theorem ge_dct1 {P : D → List Cell → Prop} (h : Ge m1 sl st (fun x st1 => Ge m2 sl st1 (fun y st2 => ∃ k, keyD x = some k ∧ P (.dct [k] [y]) st2) E) E) : Ge (dct1M m1 m2) sl st P E := by
  refine ge_bind (h.mono (fun x st1 h1 => ge_bind (h1.mono (fun y st2 h2 => ?_) fun _ _ z => z)) fun _ _ z => z)
  obtain ⟨k, e, p⟩ := h2
  refine ⟨?_⟩
  unfold GeD
  dsimp only
  rw [e]
  exact ⟨rfl, p⟩
theorem ge_slice {ml mh : M (Option Int)} {P : D → List Cell → Prop} (h : Ge m sl st (fun x st1 => Ge ml sl st1 (fun lo st2 => Ge mh sl st2 (fun hi st3 => ∃ d, cutD st3 x lo hi = some d ∧ P d st3) E) E) E) : Ge (sliceM m ml mh) sl st P E := by
  refine ge_bind (h.mono (fun x st1 h1 => ge_bind (h1.mono (fun lo st2 h2 => ge_bind (h2.mono (fun hi st3 h3 => ?_) fun _ _ z => z)) fun _ _ z => z)) fun _ _ z => z)
  obtain ⟨d, e, p⟩ := h3
  refine ⟨?_⟩
  unfold GeD
  dsimp only
  rw [e]
  exact ⟨rfl, p⟩
theorem ge_part {P : Option Int → List Cell → Prop} (h : Ge m sl st (fun x st1 => ∃ i, x = .int i ∧ P (some i) st1) E) : Ge (partM m) sl st P E := by
  refine ge_bind (h.mono (fun x st1 h1 => ?_) fun _ _ z => z)
  obtain ⟨i, rfl, p⟩ := h1
  exact ⟨⟨rfl, p⟩⟩
theorem ge_tru {P : Bool → List Cell → Prop} (h : Ge m sl st (fun x st1 => ∃ b, truD st1 x = some b ∧ P b st1) E) : Ge (truM m) sl st P E := by
  refine ge_bind (h.mono (fun x st1 h1 => ?_) fun _ _ z => z)
  obtain ⟨b, e, p⟩ := h1
  refine ⟨?_⟩
  unfold GeD
  dsimp only
  rw [e]
  exact ⟨rfl, p⟩
theorem ge_not {P : D → List Cell → Prop} (h : Ge m sl st (fun x st1 => ∃ b, truD st1 x = some b ∧ P (.bl (!b)) st1) E) : Ge (notM m) sl st P E := by
  refine ge_bind (h.mono (fun x st1 h1 => ?_) fun _ _ z => z)
  obtain ⟨b, e, p⟩ := h1
  refine ⟨?_⟩
  unfold GeD
  dsimp only
  rw [e]
  exact ⟨rfl, p⟩
theorem ge_and {P : D → List Cell → Prop} (h : Ge m1 sl st (fun x st1 => ∃ b, truD st1 x = some b ∧ (b = true → Ge m2 sl st1 P E) ∧ (b = false → P x st1)) E) : Ge (andM m1 m2) sl st P E := by
  refine ge_bind (h.mono (fun x st1 h1 => ?_) fun _ _ z => z)
  obtain ⟨b, e, p, q⟩ := h1
  refine ⟨?_⟩
  unfold GeD
  dsimp only
  rw [e]
  cases b with
  | true => exact (p rfl).is
  | false => exact ⟨rfl, q rfl⟩
theorem ge_or {P : D → List Cell → Prop} (h : Ge m1 sl st (fun x st1 => ∃ b, truD st1 x = some b ∧ (b = true → P x st1) ∧ (b = false → Ge m2 sl st1 P E)) E) : Ge (orM m1 m2) sl st P E := by
  refine ge_bind (h.mono (fun x st1 h1 => ?_) fun _ _ z => z)
  obtain ⟨b, e, p, q⟩ := h1
  refine ⟨?_⟩
  unfold GeD
  dsimp only
  rw [e]
  cases b with
  | false => exact (q rfl).is
  | true => exact ⟨rfl, p rfl⟩
theorem ge_ite {ma mb : M α} {P : α → List Cell → Prop} (h : Ge tA sl st (fun b st1 => (b = true → Ge ma sl st1 P E) ∧ (b = false → Ge mb sl st1 P E)) E) : Ge (iteM tA ma mb) sl st P E := by
  refine ge_bind (h.mono (fun b st1 h1 => ?_) fun _ _ z => z)
  refine ⟨?_⟩
  unfold GeD
  cases b with
  | true => exact (h1.1 rfl).is
  | false => exact (h1.2 rfl).is
theorem ge_andB {P : Bool → List Cell → Prop} (h : Ge tA sl st (fun b st1 => (b = true → Ge tB sl st1 P E) ∧ (b = false → P false st1)) E) : Ge (andB tA tB) sl st P E :=
  ge_ite (h.mono (fun _ _ z => ⟨z.1, fun e => ge_pure (z.2 e)⟩) fun _ _ z => z)
theorem ge_orB {P : Bool → List Cell → Prop} (h : Ge tA sl st (fun b st1 => (b = true → P true st1) ∧ (b = false → Ge tB sl st1 P E)) E) : Ge (orB tA tB) sl st P E :=
  ge_ite (h.mono (fun _ _ z => ⟨fun e => ge_pure (z.1 e), z.2⟩) fun _ _ z => z)
theorem ge_notB {P : Bool → List Cell → Prop} (h : Ge tA sl st (fun b st1 => P (!b) st1) E) : Ge (notB tA) sl st P E :=
  ge_bind (h.mono (fun _ _ z => ge_pure z) fun _ _ z => z)
theorem ge_isB {P : Bool → List Cell → Prop} (h : Ge m sl st (fun x st1 => ∃ b, x = .bl b ∧ P b st1) E) : Ge (isB m) sl st P E := by
  refine ge_bind (h.mono (fun x st1 h1 => ?_) fun _ _ z => z)
  obtain ⟨b, rfl, p⟩ := h1
  exact ⟨⟨rfl, p⟩⟩
theorem ge_chain {f g : List Cell → D → D → Option D} {m3 : M D} {P : D → List Cell → Prop} (h : Ge m1 sl st (fun x st1 => Ge m2 sl st1 (fun y st2 => ∃ b, f st2 x y = some (.bl b) ∧ (b = true → Ge m3 sl st2 (fun z st3 => ∃ d, g st3 y z = some d ∧ P d st3) E) ∧ (b = false → P (.bl false) st2)) E) E) :
    Ge (chainM f g m1 m2 m3) sl st P E := by
  refine ge_bind (h.mono (fun x st1 h1 => ge_bind (h1.mono (fun y st2 h2 => ?_) fun _ _ z => z)) fun _ _ z => z)
  obtain ⟨b, e, p, q⟩ := h2
  have h3 : Ge (bindM m3 fun z s => match g s.st y z with
      | some d => .ok d s
      | none => .bad) sl st2 P E ∨ b = false := by
    cases b with
    | false => exact .inr rfl
    | true =>
      refine .inl (ge_bind ((p rfl).mono (fun z st3 h4 => ?_) fun _ _ z => z))
      obtain ⟨d, e2, p2⟩ := h4
      refine ⟨?_⟩
      unfold GeD
      dsimp only
      rw [e2]
      exact ⟨rfl, p2⟩
  refine ⟨?_⟩
  unfold GeD
  dsimp only
  rw [e]
  cases b with
  | true =>
    rcases h3 with h3 | h3
    · exact h3.is
    · cases h3
  | false => exact ⟨rfl, q rfl⟩
theorem ge_items {P : List D → List Cell → Prop} (h : Ge m sl st (fun x st1 => ∃ xs, x = .lst xs ∧ P xs st1) E) : Ge (itemsM m) sl st P E := by
  refine ge_bind (h.mono (fun x st1 h1 => ?_) fun _ _ z => z)
  obtain ⟨b, rfl, p⟩ := h1
  exact ⟨⟨rfl, p⟩⟩
theorem ge_itemsT {P : List D → List Cell → Prop} (h : Ge m sl st (fun x st1 => ∃ xs, x = .tup xs ∧ P xs st1) E) : Ge (itemsTM m) sl st P E := by
  refine ge_bind (h.mono (fun x st1 h1 => ?_) fun _ _ z => z)
  obtain ⟨b, rfl, p⟩ := h1
  exact ⟨⟨rfl, p⟩⟩
theorem ge_signs {P : List D → List Cell → Prop} (h : Ge m sl st (fun x st1 => ∃ z, x = .str z ∧ P (signsL z) st1) E) : Ge (signsM m) sl st P E := by
  refine ge_bind (h.mono (fun x st1 h1 => ?_) fun _ _ z => z)
  obtain ⟨b, rfl, p⟩ := h1
  exact ⟨⟨rfl, p⟩⟩
theorem ge_rng1 {P : List D → List Cell → Prop} (h : Ge ms sl st (fun xs st1 => ∃ j, xs = [.int j] ∧ in62 j = true ∧ P (rngL 0 j.toNat) st1) E) : Ge (rng1M ms) sl st P E := by
  refine ge_bind (h.mono (fun x st1 h1 => ?_) fun _ _ z => z)
  obtain ⟨j, rfl, e, p⟩ := h1
  refine ⟨?_⟩
  unfold GeD
  dsimp only
  rw [e]
  exact ⟨rfl, p⟩
theorem ge_rng2 {P : List D → List Cell → Prop} (h : Ge ms sl st (fun xs st1 => ∃ i j, xs = [.int i, .int j] ∧ in62 i = true ∧ in62 j = true ∧ P (rngL i (j - i).toNat) st1) E) : Ge (rng2M ms) sl st P E := by
  refine ge_bind (h.mono (fun x st1 h1 => ?_) fun _ _ z => z)
  obtain ⟨i, j, rfl, e1, e2, p⟩ := h1
  refine ⟨?_⟩
  unfold GeD
  dsimp only [rng2O]
  rw [e1, e2]
  exact ⟨rfl, p⟩
/-! ### statements -/
variable {a b : MS} {N : En} {g : D → MS}
theorem gs_bind {m : M α} {f : α → MS} (h : Ge m sl st (fun a st' => Gs (f a) sl st' N) (fun x st' => N.xx x sl st')) : Gs (bindS m f) sl st N := by
  replace h := h.is
  unfold GeD at h
  refine ⟨?_⟩
  unfold GsD bindS
  cases e : m ⟨sl, st⟩ with
  | ok a s =>
    rw [e] at h
    obtain ⟨h1, h2⟩ := h
    obtain ⟨l, t⟩ := s
    dsimp only at h1 h2 ⊢
    subst h1
    exact h2.is
  | exc x s =>
    rw [e] at h
    obtain ⟨h1, h2⟩ := h
    obtain ⟨l, t⟩ := s
    dsimp only at h1 h2 ⊢
    subst h1
    exact h2
  | bad =>
    rw [e] at h
    exact h
theorem gs_seq (h : Gs a sl st { N with nx := fun sl' st' => Gs b sl' st' N }) : Gs (seqS a b) sl st N := by
  refine ⟨?_⟩
  replace h := h.is
  unfold GsD at h ⊢
  unfold seqS
  cases e : a ⟨sl, st⟩ with
  | next s =>
    rw [e] at h
    exact h.is
  | _ =>
    rw [e] at h
    exact h
theorem gs_next (h : N.nx sl st) : Gs nextS sl st N := ⟨h⟩
theorem gs_cont (h : N.ct sl st) : Gs contS sl st N := ⟨h⟩
theorem gs_brk (h : N.bk sl st) : Gs brkS sl st N := ⟨h⟩
theorem gs_retN (h : N.rt .non st) : Gs retN sl st N := ⟨h⟩
theorem gs_ret (h : Ge m sl st (fun d st' => N.rt d st') fun x st' => N.xx x sl st') : Gs (retS m) sl st N := gs_bind (h.mono (fun _ _ z => ⟨z⟩) fun _ _ z => z)
theorem gs_expr (h : Ge m sl st (fun d st' => N.nx sl st') fun x st' => N.xx x sl st') : Gs (exprS m) sl st N := gs_bind (h.mono (fun _ _ z => ⟨z⟩) fun _ _ z => z)
theorem gs_if (h : Ge tA sl st (fun k st' => (k = true → Gs a sl st' N) ∧ (k = false → Gs b sl st' N)) fun x st' => N.xx x sl st') : Gs (ifS tA a b) sl st N :=
  gs_bind (h.mono (fun k st' z => by
    cases k with
    | true => exact ⟨(z.1 rfl).is⟩
    | false => exact ⟨(z.2 rfl).is⟩) fun _ _ z => z)
theorem gs_set {i : Nat} (h : Ge m sl st (fun d st' => N.nx (sl.set i (some (.val d))) st') fun x st' => N.xx x sl st') : Gs (setS m (setD i)) sl st N := gs_bind (h.mono (fun _ _ z => ⟨z⟩) fun _ _ z => z)
theorem gs_par {i j : Nat} (h : Ge ms sl st (fun ds st' => ∃ d d', ds = [d, d'] ∧ N.nx ((sl.set i (some (.val d))).set j (some (.val d'))) st') fun x st' => N.xx x sl st') : Gs (parS i j ms) sl st N :=
  gs_bind (h.mono (fun ds st' z => by
    obtain ⟨d, d', rfl, p⟩ := z
    exact ⟨p⟩) fun _ _ z => z)
theorem gs_sub {mo mi : M D} (h : Ge m sl st (fun d st1 => Ge mo sl st1 (fun o st2 => Ge mi sl st2 (fun i st3 => ∃ p, putIx st3 o i d = some p ∧ N.nx sl (st3.set p.1 p.2)) fun _ _ => False) fun _ _ => False) fun x st' => N.xx x sl st') : Gs (setS m (onN (subG mo mi))) sl st N := by
  refine gs_bind (h.mono (fun d st1 h1 => ?_) fun _ _ z => z)
  have q : Gs (subG mo mi d) sl st1 { nx := N.nx, rt := fun _ _ => False } := by
    refine gs_bind (h1.mono (fun o st2 h2 => gs_bind (h2.mono (fun i st3 h3 => ?_) fun _ _ z => z)) fun _ _ z => z)
    obtain ⟨p, e, q⟩ := h3
    refine ⟨?_⟩
    unfold GsD
    dsimp only
    rw [e]
    exact q
  refine ⟨?_⟩
  replace q := q.is
  unfold GsD at q ⊢
  unfold onN
  cases e : subG mo mi d ⟨sl, st1⟩ with
  | next s =>
    rw [e] at q
    exact q
  | _ =>
    rw [e] at q
    exact q.elim
/-- a for: what holds before each turn -/
theorem gs_for {mi : M (List D)} (I : List D → SL → List Cell → Prop) (h : Ge mi sl st (fun items st' => I items sl st') fun x st' => N.xx x sl st')
    (hs : ∀ d ds sl st, I (d :: ds) sl st → Gs (g d) sl st { nx := fun sl' st' => Gs b sl' st' { nx := I ds, rt := N.rt, bk := N.nx, ct := I ds, xx := N.xx }, rt := fun _ _ => False }) (hd : ∀ sl st, I [] sl st → N.nx sl st) : Gs (forS mi g b) sl st N := by
  refine gs_bind (h.mono (fun items st' h1 => ?_) fun _ _ z => z)
  have key : ∀ items sl st, I items sl st → Gs (loopS g b items) sl st N := by
    intro items
    induction items with
    | nil => exact fun sl st h => ⟨hd sl st h⟩
    | cons d ds ih =>
      intro sl st h
      have q := hs d ds sl st h
      refine ⟨?_⟩
      replace q := q.is
      unfold GsD at q ⊢
      simp only [loopS]
      cases e : g d ⟨sl, st⟩ with
      | next s1 =>
        rw [e] at q
        dsimp only at q ⊢
        replace q := q.is
        unfold GsD at q
        cases e2 : b ⟨s1.sl, s1.st⟩ with
        | next s2 =>
          rw [e2] at q
          exact (ih s2.sl s2.st q).is
        | cont s2 =>
          rw [e2] at q
          exact (ih s2.sl s2.st q).is
        | brk s2 =>
          rw [e2] at q
          exact q
        | ret d s2 =>
          rw [e2] at q
          exact q
        | exc x s2 =>
          rw [e2] at q
          exact q
        | bad =>
          rw [e2] at q
          exact q.elim
      | _ =>
        rw [e] at q
        exact q.elim
  exact key items sl st' h1
theorem gs_setD {i : Nat} {d : D} (h : N.nx (sl.set i (some (.val d))) st) : Gs (setD i d) sl st N := ⟨h⟩
/-! ### defs -/
theorem gf_def {n k : Nat} {body : MS} {ds : List D} {P : D → List Cell → Prop} (hl : ds.length = k) (h : Gs body (slots n ds) st { nx := fun _ st' => P .non st', rt := P, xx := fun x _ st' => E x st' }) : Gf (callB n k body) ds st P E := by
  refine ⟨?_⟩
  unfold GfD callB
  rw [decide_eq_true hl]
  replace h := h.is
  unfold GsD at h
  dsimp only
  cases e : body ⟨slots n ds, st⟩ with
  | next s =>
    rw [e] at h
    exact h
  | ret d s =>
    rw [e] at h
    exact h
  | exc x s =>
    rw [e] at h
    exact h
  | _ =>
    rw [e] at h
    exact h.elim
/-! ### comprehensions -/
/-- one turn, one element -/
theorem ge_comp {vs : List Nat} {i : Nat} {mi : M (List D)} {P : List D → List Cell → Prop} (I : List D → List D → List Cell → Prop) (hv : vs = [i]) (hno : noOwn sl vs = true)
    (h : Ge mi sl st (fun items st' => I items [] st') E)
    (hs : ∀ d ds acc st, I (d :: ds) acc st → Ge tA ((wipeG sl vs).set i (some (.val d))) st (fun b st1 => (b = true → Ge m ((wipeG sl vs).set i (some (.val d))) st1 (fun y st2 => acc.length < sizeLine ∧ I ds (acc ++ [y]) st2) fun _ _ => False) ∧ (b = false → I ds acc st1)) fun _ _ => False)
    (hd : ∀ acc st, I [] acc st → P acc st) : Ge (compM vs mi (setD i) tA m) sl st P E := by
  subst hv
  refine ge_bind (h.mono (fun items st' h1 => ?_) fun _ _ z => z)
  have rest : ∀ (s' : SL), s'.length = sl.length → (∀ j, j ≠ i → s'[j]? = sl[j]?) → restG sl s' [i] = sl := by
    intro s' hl hj
    refine List.ext_getElem? fun j => ?_
    show (s'.set i ((sl[i]?).getD none))[j]? = sl[j]?
    by_cases e : i = j
    · subst e
      by_cases hb : i < sl.length
      · rw [List.getElem?_set_self (by omega), List.getElem?_eq_getElem hb]
        rfl
      · rw [List.getElem?_eq_none (by simp; omega), List.getElem?_eq_none (by omega)]
    · rw [List.getElem?_set_ne e]
      exact hj j (fun z => e z.symm)
  have key : ∀ items acc st (s' : SL), s'.length = sl.length → (∀ j, j ≠ i → s'[j]? = sl[j]?) → I items acc st → ∃ out s2, compL [i] (setD i) tA m items acc ⟨s', st⟩ = some (out, s2) ∧ s2.sl.length = sl.length ∧ (∀ j, j ≠ i → s2.sl[j]? = sl[j]?) ∧ P out s2.st := by
    intro items
    induction items with
    | nil => exact fun acc st s' hl hj h => ⟨acc, ⟨s', st⟩, rfl, hl, hj, hd acc st h⟩
    | cons d ds ih =>
      intro acc st s' hl hj h
      have q := hs d ds acc st h
      have e0 : (wipeG s' [i]).set i (some (SV.val d)) = (wipeG sl [i]).set i (some (SV.val d)) := by
        refine List.ext_getElem? fun j => ?_
        show ((s'.set i none).set i (some (SV.val d)))[j]? = ((sl.set i none).set i (some (SV.val d)))[j]?
        rw [List.set_set, List.set_set]
        by_cases e : i = j
        · subst e
          by_cases hb : i < sl.length
          · rw [List.getElem?_set_self (by omega), List.getElem?_set_self hb]
          · rw [List.getElem?_eq_none (by simp; omega), List.getElem?_eq_none (by simp; omega)]
        · rw [List.getElem?_set_ne e, List.getElem?_set_ne e]
          exact hj j (fun z => e z.symm)
      have L : ((wipeG sl [i]).set i (some (SV.val d))).length = sl.length := by
        rw [List.length_set, wipeG_len]
      have J : ∀ j, j ≠ i → ((wipeG sl [i]).set i (some (SV.val d)))[j]? = sl[j]? := fun j hji => by
        rw [List.getElem?_set_ne (fun z => hji z.symm), wipeG_out (by simpa using hji)]
      simp only [compL, setD]
      rw [e0]
      replace q := q.is
      unfold GeD at q
      cases e1 : tA ⟨(wipeG sl [i]).set i (some (SV.val d)), st⟩ with
      | ok b s1 =>
        rw [e1] at q
        obtain ⟨l1, t1⟩ := s1
        obtain ⟨q1, q2, q3⟩ := q
        dsimp only at q1 q2 q3 ⊢
        subst q1
        cases b with
        | false => exact ih acc t1 _ L J (q3 rfl)
        | true =>
          have q4 := (q2 rfl).is
          unfold GeD at q4
          dsimp only
          cases e2 : m ⟨(wipeG sl [i]).set i (some (SV.val d)), t1⟩ with
          | ok y s2 =>
            rw [e2] at q4
            obtain ⟨l2, t2⟩ := s2
            obtain ⟨p1, p2, p3⟩ := q4
            dsimp only at p1 p2 p3 ⊢
            subst p1
            rw [decide_eq_true p2]
            exact ih (acc ++ [y]) t2 _ L J p3
          | exc x s2 =>
            rw [e2] at q4
            exact q4.2.elim
          | bad =>
            rw [e2] at q4
            exact q4.elim
      | exc x s1 =>
        rw [e1] at q
        exact q.2.elim
      | bad =>
        rw [e1] at q
        exact q.elim
  obtain ⟨out, s2, k1, k2, k3, k4⟩ := key items [] st' sl rfl (fun _ _ => rfl) h1
  refine ⟨?_⟩
  unfold GeD
  dsimp only
  rw [hno]
  dsimp only
  rw [k1]
  exact ⟨rest _ k2 k3, k4⟩
end
end Mir
/-! M18: data as they occur: ints, bools, texts; repr of lists of bools. -/
namespace Mir
open PySem L2
/-! ### a step -/
theorem ge_varG {sl : SL} {st : List Cell} {E : Ex → List Cell → Prop} {i : Nat} {d : D} {P : D → List Cell → Prop} (h : P d st) (e : sl[i]? = some (some (.val d)) := by rfl) : Ge (varM i) sl st P E := ge_var e h
/-! ### cells -/
theorem q_ixR {st : List Cell} {k : Nat} {i : Int} {xs : List D} {d : D} {Q : D → Prop} (h : st[k]? = some (.lst xs)) (e : atI xs i = some d) (q : Q d) : ∃ d, ixD st (.ref k) (.int i) = some d ∧ Q d :=
  ⟨d, by show (lstOf st (.ref k)).bind (fun xs => atI xs i) = some d; unfold lstOf; dsimp only; rw [h]; exact e, q⟩
theorem q_put {st : List Cell} {k : Nat} {i : Int} {xs : List D} {d : D} {j : Nat} {Q : Nat × Cell → Prop} (h : st[k]? = some (.lst xs)) (e : ixN xs.length i = some j) (q : Q (k, .lst (xs.set j d))) : ∃ p, putIx st (.ref k) (.int i) d = some p ∧ Q p :=
  ⟨_, by unfold putIx; dsimp only; rw [h]; dsimp only; rw [e]; rfl, q⟩
/-! ### ints -/
theorem q_mul {st : List Cell} {i j : Int} {Q : D → Prop} (h : i.natAbs.log2 + j.natAbs.log2 < 1000000) (q : Q (.int (i * j))) : ∃ d, mulD st (.int i) (.int j) = some d ∧ Q d := ⟨_, by show iMul i j = _; unfold iMul; rw [if_pos h], q⟩
theorem q_div {st : List Cell} {i j : Int} {Q : D → Prop} (h : 0 < j ∧ j.natAbs.log2 < 9000) (q : Q (.int (i / j))) : ∃ d, ii iDiv st (.int i) (.int j) = some d ∧ Q d := ⟨_, by show iDiv i j = _; unfold iDiv; rw [if_pos h], q⟩
theorem q_mod {st : List Cell} {i j : Int} {Q : D → Prop} (h : 0 < j) (q : Q (.int (i % j))) : ∃ d, ii iMod st (.int i) (.int j) = some d ∧ Q d := ⟨_, by show iMod i j = _; unfold iMod; rw [if_pos h], q⟩
theorem q_pow {st : List Cell} {i j : Int} {Q : D → Prop} (h : 0 ≤ j ∧ j ≤ 1000000 ∧ i.natAbs < 2 ^ 64) (q : Q (.int (i ^ j.toNat))) : ∃ d, ii iPow st (.int i) (.int j) = some d ∧ Q d := ⟨_, by show iPow i j = _; unfold iPow; rw [if_pos h], q⟩
theorem log2_lt {n k : Nat} (h : n < 2 ^ k) (hk : 0 < k) : n.log2 < k := by
  by_cases z : n = 0
  · subst z
    simpa using hk
  · exact (Nat.log2_lt z).mpr h
theorem eqD_int (st : List Cell) (i j : Int) : eqD st (.int i) (.int j) = some (decide (i = j)) := by
  show some (PyData.eqv (.int i) (.int j)) = _
  unfold PyData.eqv
  by_cases h : i = j
  · subst h
    simp
  · rw [decide_eq_false h]
    simpa using h
theorem fEq_int (st : List Cell) (i j : Int) : fEq st (.int i) (.int j) = some (.bl (decide (i = j))) := by
  unfold fEq
  rw [eqD_int]
  rfl
theorem fNe_int (st : List Cell) (i j : Int) : fNe st (.int i) (.int j) = some (.bl (!decide (i = j))) := by
  unfold fNe
  rw [eqD_int]
  rfl
theorem fEq_str (st : List Cell) (i j : Str) : fEq st (.str i) (.str j) = some (.bl (decide (i = j))) := rfl
theorem fNe_str (st : List Cell) (i j : Str) : fNe st (.str i) (.str j) = some (.bl (!decide (i = j))) := rfl
theorem fEq_same (st : List Cell) (i : Str) : fEq st (.str i) (.str i) = some (.bl true) := by
  rw [fEq_str, decide_eq_true rfl]
theorem fNe_same (st : List Cell) (i : Str) : fNe st (.str i) (.str i) = some (.bl false) := by
  rw [fNe_str, decide_eq_true rfl]
  rfl
/-! ### lists of bools and their repr -/
theorem pyL_bl (st : List Cell) (n : Nat) : ∀ bs : List Bool, pyL (py st (n + 1)) (bs.map D.bl) = some (bs.map PyData.bool)
  | [] => rfl
  | b :: bs => by
    show pyL (py st (n + 1)) (.bl b :: bs.map D.bl) = _
    unfold pyL
    rw [pyL_bl st n bs]
    rfl
theorem show_bl : ∀ bs : List Bool, PyData.showableAll (bs.map PyData.bool) = true
  | [] => by simp [PyData.showableAll]
  | b :: bs => by
    rw [List.map_cons]
    unfold PyData.showableAll
    rw [show_bl bs]
    simp [PyData.showable]
theorem leaf_bl (B : Nat) : ∀ bs : List Bool, PyData.leavesShortAll B (bs.map PyData.bool) = true
  | [] => by simp [PyData.leavesShortAll]
  | b :: bs => by
    rw [List.map_cons]
    unfold PyData.leavesShortAll
    rw [leaf_bl B bs]
    simp [PyData.leavesShort]
theorem bulk_bl : ∀ bs : List Bool, PyData.bulkAll (bs.map PyData.bool) = bs.length
  | [] => by simp [PyData.bulkAll]
  | b :: bs => by
    rw [List.map_cons]
    unfold PyData.bulkAll
    rw [bulk_bl bs]
    simp [PyData.bulk]
    omega
def blsText (bs : List Bool) : Str := (PyData.list (bs.map PyData.bool)).shown
theorem repr_bls (st : List Cell) (bs : List Bool) (h : bs.length ≤ 10000) : reprD st [.lst (bs.map D.bl)] = some (.str (blsText bs)) := by
  have e : py st 20 (.lst (bs.map D.bl)) = some (.list (bs.map PyData.bool)) := by
    show (pyL (py st 19) (bs.map D.bl)).map PyData.list = _
    rw [pyL_bl st 18 bs]
    rfl
  unfold reprD
  dsimp only
  rw [e]
  have h1 : (PyData.list (bs.map PyData.bool)).showable = true := by
    unfold PyData.showable
    exact show_bl bs
  have h2 : (PyData.list (bs.map PyData.bool)).shown.length ≤ sizeLine := by
    have q := PyData.shown_le_bulk 8 (by decide) (.list (bs.map PyData.bool)) (by unfold PyData.leavesShort; exact leaf_bl 8 bs)
    have e2 : PyData.bulk (.list (bs.map PyData.bool)) = bs.length := by
      unfold PyData.bulk
      exact bulk_bl bs
    rw [e2] at q
    rw [sizeLine_eq]
    omega
  dsimp only
  rw [if_pos ⟨h1, h2⟩]
  rfl
end Mir
/-! M19: methods of lists that stand in cells. -/
namespace Mir
open PySem PySem.Spec PyProof.Rows L2
/-- a cell's list, rewritten by what the argument says -/
def celM (f : List D → D → Option (D × List D)) (mo me : M D) : M D := bindM mo fun x s => match lstOf s.st x with
  | some _ => (bindM me fun y s => match x with
    | .ref n => (match s.st[n]? with
      | some (.lst xs) => (match f xs y with
        | some p => .ok p.1 { s with st := s.st.set n (.lst p.2) }
        | none => .bad)
      | _ => .bad)
    | _ => .bad) s
  | none => .bad
def appF (xs : List D) (y : D) : Option (D × List D) := if xs.length < sizeLine then some (.non, xs ++ [y]) else none
section
variable {K : PySem.W.Frag} {mg : Str → Option Value} {W : WX} {X : Cx} {o e : Expr} {mo me : M D} {apos pos : Pos}
theorem me_append (ho : PE X o (T X.K mg W mo)) (he : PE X e (T X.K mg W me)) (hbase : attributeBase o "append" X.env (eval o X.env) = eval o X.env := by rfl)
    (hfew : ((backTo pos (starEach (e :: []) X.env)).all (fun x => !x.1) && (backToKw pos (keywordEach [] X.env)).all (fun x => x.1.isSome)
      && decide ((e :: ([] : List Expr)).length + ([] : List Keyword).length + (if ([] : List Keyword).isEmpty then 0 else 1) < 30)) = true := by rfl)
    (hline : (apos.endLine == pos.line) = true := by rfl) (hs : starEach (e :: []) X.env = (false, eval e X.env) :: starEach [] X.env := by rfl) (hplain : (backTo pos (starEach [] X.env)).any (·.1) = false := by rfl) :
    PE X (.Call (.Attribute o "append" apos) [e] [] pos) (T X.K mg W (celM appF mo me)) := by
  refine PE.imp (pe_bm PySem.F.plainAttrs_list PySem.F.slot_list_append PySem.F.type_list_append mt_append ho (pa_cons he pa_nil hs) hbase hfew hline hs hplain) fun σ H Q q => ?_
  obtain ⟨c, rfl, rfl, rc, z⟩ := q
  refine ⟨c, rfl, rfl, rc, (Post.bind (m := mo c.s) z).mono fun x c1 e1 r1 x1 z1 v hv => ?_⟩
  cases hl : lstOf c1.s.st x with
  | none =>
    rw [hl] at z1
    exact z1.elim
  | some xs0 =>
    rw [hl] at z1
    obtain ⟨a, vs, rfl, hq, l⟩ := lstOf_rep r1.rc hl hv
    refine ⟨.inl ⟨rfl, _, hq⟩, ?_⟩
    refine ⟨c1, e1, rfl, r1, (Post.bind (m := me c1.s) z1).mono fun y c2 e2 r2 x2 z2 w hw => ?_⟩
    cases x with
    | ref n =>
      obtain ⟨a', ea, hn⟩ := x2.repV hv
      cases ea
      replace z2 : Post X.K mg W c2 (fun d c' => ∀ v, RepV X.K mg c'.h.ι c'.h.F d v → Q v c'.h.H) (match c2.s.st[n]? with
        | some (.lst xs) => (match appF xs y with
          | some p => .ok p.1 { c2.s with st := c2.s.st.set n (.lst p.2) }
          | none => .bad)
        | _ => .bad) := z2
      have es : c2.s.st = c2.h.st := rfl
      rw [es] at z2
      cases hc : c2.h.st[n]? with
      | none =>
        rw [hc] at z2
        exact z2.elim
      | some cell =>
        rw [hc] at z2
        cases cell with
        | lst xs =>
          obtain ⟨hF, ws, eH, lw⟩ := r2.rc.cell n a _ hn hc
          replace z2 : Post X.K mg W c2 (fun d c' => ∀ v, RepV X.K mg c'.h.ι c'.h.F d v → Q v c'.h.H) (match appF xs y with
            | some p => .ok p.1 { c2.s with st := c2.h.st.set n (.lst p.2) }
            | none => .bad) := z2
          unfold appF at z2
          have len := RepL.length lw
          by_cases hz : xs.length < sizeLine
          · rw [if_pos hz] at z2
            refine ⟨a, ws, w, rfl, rfl, eH, by omega, ?_⟩
            exact z2 (c2.cset n a (.lst (xs ++ [y])) (.lst (ws ++ [w]))) rfl rfl (r2.cset hn hF (cset_lst hF (lw.append (RepL.one hw)))) (Ext.cset hn) _ rfl
          · rw [if_neg hz] at z2
            exact z2.elim
        | _ => exact z2.elim
    | _ => exact z2.elim
end
end Mir
/-! M20: calls that leave keyword parameters to their defaults. -/
namespace Mir
open PySem PySem.Spec PyProof.Rows L2
/-- what is bound where defaults fill up -/
structure KwD (K : PySem.W.Frag) (fd : FuncData) (ps : List Str) (n : Nat) (ks : List Str) (g : List Value → List Value → List Value) : Prop where
  to : ∀ (s : Shared) (us ws : List Value), K.In s.heap → us.length = n → ws.length = ks.length → BindsTo s fd ⟨us, ks.zip ws⟩ (ps.zip (g us ws))
theorem pickV_rel {ix : List Nat} {dV : List V} {dvs : List Value} (hd : Vals dV dvs) {vs : List V} {us : List Value} {zs : List V} {ws : List Value} (h : Vals vs us) (k : Vals zs ws) : Vals (pick ix vs (zs ++ dV)) (pick ix us (ws ++ dvs)) :=
  (pick_rel ix).1 h (k.append hd)
theorem pickD_rel {K : PySem.W.Frag} {mg : Str → Option Value} {ix : List Nat} {dV : List V} {dD : List D} (hd : ∀ ι F, RepL K mg ι F dD dV) (ι : List Addr) (F : Hp) (ds : List D) (vs : List V) (es : List D) (ws : List V) (h : RepL K mg ι F ds vs) (k : RepL K mg ι F es ws) :
    RepL K mg ι F (pick ix ds (es ++ dD)) (pick ix vs (ws ++ dV)) := (pick_rel ix).2 K mg ι F h (k.append (hd ι F))
section
variable {K : PySem.W.Frag} {mg : Str → Option Value} {W : WX} {X : Cx} {c c1 : Cfg}
variable {f : Addr} {fd : FuncData} {ps : List Str} {sp : Sp} {k ar n : Nat} {m : MF} {x : Str} {p pos kpos : Pos} {e : Expr} {es : List Expr} {ms mk : M (List D)} {t tk : TA} {E : L2.St → XK} {kws : List Keyword} {ks : List Str}
variable {gU : List Value → List Value → List Value} {gV : List V → List V → List V} {ix : List Nat} {dV : List V} {dvs : List Value} {dD : List D}
theorem pe_callKD (F : FnG X.prog X.w X.K X.mg X.base k f fd ps sp) (hr : Room k X.A) (hgd : X.A.guards = some []) (hg : Gl X x) (hm : X.mg x = some (.ref f)) (hk : PySem.W.keepIn X.K (.ref f) = true) (hb : KwD X.K fd ps n ks gU) (hrel : ∀ {vs : List V} {us : List Value} {zs : List V} {ws : List Value}, Vals vs us → Vals zs ws → Vals (gV vs zs) (gU us ws)) (hx : ∀ σ, PassesAt (L2.CX X.prog X.w) X σ (E σ))
    (ha : PA X (e :: es) t) (hkw : PK X kws tk) (hall : (backToKw pos (keywordEach kws X.env)).all (·.1.isSome) = true := by rfl) (hks : (backToKw pos (keywordEach kws X.env)).filterMap (·.1) = ks := by rfl)
    (hdb : (x == ("__debug__" : Str)) = false := by decide) (he : starEach (e :: es) X.env = (false, eval e X.env) :: starEach es X.env := by rfl)
    (hpl : ((backTo pos (starEach (e :: es) X.env)).any (·.1) || (backToKw pos (keywordEach kws X.env)).any (·.1.isNone)) = false := by rfl) :
    PE X (.Call (.Name x p) (e :: es) kws pos) (tKw n ks.length sp gV E t tk) := by
  constructor
  intro pins s σ H Q I h
  refine wpAny_Call_Name_kw (ld_glob I hg hm ?_ hdb)
  refine PySem.W.callWith_KW (h₀ := X.base) I.ok.mod.kin hk hall (thn (ha.run pos pins s σ H _ I h) ?_) hpl he
  rintro us s1 ⟨vs, H1, I1, r, q⟩
  refine thn (hkw.run pos pins s1 σ H1 _ I1 q) ?_
  rintro ws s2 ⟨zs, H2, I2, rz, l1, l2, q2⟩
  refine ⟨I2.kIn, ?_⟩
  rw [hks]
  exact run_g F hr hgd (hb.to s2 us ws I2.kIn (by rw [← r.length]; exact l1) (by rw [← rz.length]; exact l2)) (hx σ) I2 (hrel r rz) q2
theorem pe_callKD0 (F : FnG X.prog X.w X.K X.mg X.base k f fd ps sp) (hr : Room k X.A) (hgd : X.A.guards = some []) (hg : Gl X x) (hm : X.mg x = some (.ref f)) (hk : PySem.W.keepIn X.K (.ref f) = true) (hb : KwD X.K fd ps 0 ks gU) (hrel : ∀ {vs : List V} {us : List Value} {zs : List V} {ws : List Value}, Vals vs us → Vals zs ws → Vals (gV vs zs) (gU us ws)) (hx : ∀ σ, PassesAt (L2.CX X.prog X.w) X σ (E σ))
    (hkw : PK X kws tk) (hall : (backToKw pos (keywordEach kws X.env)).all (·.1.isSome) = true := by rfl) (hks : (backToKw pos (keywordEach kws X.env)).filterMap (·.1) = ks := by rfl)
    (hdb : (x == ("__debug__" : Str)) = false := by decide)
    (hpl : ((backTo pos (starEach [] X.env)).any (·.1) || (backToKw pos (keywordEach kws X.env)).any (·.1.isNone)) = false := by rfl) :
    PE X (.Call (.Name x p) [] kws pos) (tKw 0 ks.length sp gV E tNil tk) := by
  constructor
  intro pins s σ H Q I h
  refine wpAny_Call_Name_kw (ld_glob I hg hm ?_ hdb)
  refine PySem.W.callWith_KW0 (h₀ := X.base) I.ok.mod.kin hk hall (thn (hkw.run pos pins s σ H _ I h) ?_) hpl
  rintro ws s2 ⟨zs, H2, I2, rz, l1, l2, q2⟩
  refine ⟨I2.kIn, ?_⟩
  rw [hks]
  exact run_g (us := []) F hr hgd (hb.to s2 [] ws I2.kIn rfl (by rw [← rz.length]; exact l2)) (hx σ) I2 (hrel .nil rz) q2
theorem kwD_core {kn : Nat} {gD : List D → List D → List D} {gV : List V → List V → List V} (har : ∀ xs st, m xs st ≠ .bad → xs.length = ar) (hrel : ∀ (ι : List Addr) (F : Hp) (ds : List D) (vs : List V) (es : List D) (ws : List V), RepL K mg ι F ds vs → RepL K mg ι F es ws → RepL K mg ι F (gD ds es) (gV vs ws)) {σ : L2.St} {H : Hp} {Q : VK} (h : T K mg W (kwM m n kn gD ms mk) σ H Q) : tKw n kn (SpM K mg ar m) gV (WE W) (TL K mg W ms) (TL K mg W mk) σ H Q := by
  obtain ⟨c, rfl, rfl, rc, q⟩ := h
  refine ⟨c, rfl, rfl, rc, (Post.bind (m := ms c.s) q).mono fun xs c1 e1 r1 x1 q1 vs hv => ?_⟩
  refine ⟨c1, e1, rfl, r1, (Post.bind (m := mk c1.s) q1).mono fun zs c2 e2 r2 x2 q2 ws hw => ?_⟩
  have hv2 := x2.repL hv
  by_cases hl : xs.length = n ∧ zs.length = kn
  · rw [decide_eq_true hl] at q2
    refine ⟨by rw [← RepL.length hv2]; exact hl.1, by rw [← RepL.length hw]; exact hl.2, ?_⟩
    replace q2 : Post K mg W c2 (fun d c' => ∀ v, RepV K mg c'.h.ι c'.h.F d v → Q v c'.h.H) (match m (gD xs zs) c2.s.st with
      | .ok d st => .ok d { c2.s with st := st }
      | .exc x st => .exc x { c2.s with st := st }
      | .bad => .bad) := q2
    have hl' : (gD xs zs).length = ar := har _ c2.s.st fun z => by
      rw [z] at q2
      exact q2
    refine ⟨gD xs zs, c2.h, rfl, r2.rc, hrel _ _ _ _ _ _ hv2 hw, hl', ?_⟩
    show PostF K mg c2.h Q (WE W c.σ) (m (gD xs zs) c2.s.st)
    cases e : m (gD xs zs) c2.s.st with
    | ok d st =>
      rw [e] at q2
      intro h' v e3 rc' x' hv'
      exact q2 { c2 with h := h' } (by show Mir.S.mk c2.sl h'.st = _; rw [e3]; rfl) rfl (r2.called rc' x') (Ext.called x') v hv'
    | exc z st =>
      rw [e] at q2
      intro h' cv da e3 rc' x' hz
      have e4 : c2.σ = c.σ := e2.trans e1
      rw [← e4]
      exact q2 { c2 with h := h' } cv da (by show Mir.S.mk c2.sl h'.st = _; rw [e3]; rfl) rfl (r2.called rc' x') (Ext.called x') hz
    | bad =>
      rw [e] at q2
      exact q2
  · rw [decide_eq_false hl] at q2
    exact q2.elim
theorem me_callD {kn : Nat} (F : FnG X.prog X.w X.K X.mg X.base k f fd ps (SpM X.K mg ar m)) (hmb : ∀ xs st, m xs st ≠ .bad → xs.length = ar) (hr : Room k X.A) (hgd : X.A.guards = some []) (tk : Takes X W) (hg : Gl X x) (hm : X.mg x = some (.ref f)) (hk : PySem.W.keepIn X.K (.ref f) = true) (hb : KwD X.K fd ps n ks fun us ws => pick ix us (ws ++ dvs)) (hvd : Vals dV dvs) (hrel' : ∀ ι F, RepL X.K mg ι F dD dV)
    (ha : PA X (e :: es) (TL X.K mg W ms)) (hkw : PK X kws (TL X.K mg W mk)) (hall : (backToKw pos (keywordEach kws X.env)).all (·.1.isSome) = true := by rfl) (hks : (backToKw pos (keywordEach kws X.env)).filterMap (·.1) = ks := by rfl) (hkn : ks.length = kn := by rfl)
    (hdb : (x == ("__debug__" : Str)) = false := by decide) (he : starEach (e :: es) X.env = (false, eval e X.env) :: starEach es X.env := by rfl)
    (hpl : ((backTo pos (starEach (e :: es) X.env)).any (·.1) || (backToKw pos (keywordEach kws X.env)).any (·.1.isNone)) = false := by rfl) :
    PE X (.Call (.Name x p) (e :: es) kws pos) (T X.K mg W (kwM m n kn (fun xs zs => pick ix xs (zs ++ dD)) ms mk)) := by
  subst hkn
  exact PE.imp (pe_callKD F hr hgd hg hm hk hb (pickV_rel hvd) (fun σ => passAt tk σ) ha hkw hall hks hdb he hpl) fun _ _ _ h => kwD_core hmb (pickD_rel hrel') h
theorem me_callD0 {kn : Nat} (F : FnG X.prog X.w X.K X.mg X.base k f fd ps (SpM X.K mg ar m)) (hmb : ∀ xs st, m xs st ≠ .bad → xs.length = ar) (hr : Room k X.A) (hgd : X.A.guards = some []) (tk : Takes X W) (hg : Gl X x) (hm : X.mg x = some (.ref f)) (hk : PySem.W.keepIn X.K (.ref f) = true) (hb : KwD X.K fd ps 0 ks fun us ws => pick ix us (ws ++ dvs)) (hvd : Vals dV dvs) (hrel' : ∀ ι F, RepL X.K mg ι F dD dV)
    (hkw : PK X kws (TL X.K mg W mk)) (hall : (backToKw pos (keywordEach kws X.env)).all (·.1.isSome) = true := by rfl) (hks : (backToKw pos (keywordEach kws X.env)).filterMap (·.1) = ks := by rfl) (hkn : ks.length = kn := by rfl)
    (hdb : (x == ("__debug__" : Str)) = false := by decide)
    (hpl : ((backTo pos (starEach [] X.env)).any (·.1) || (backToKw pos (keywordEach kws X.env)).any (·.1.isNone)) = false := by rfl) :
    PE X (.Call (.Name x p) [] kws pos) (T X.K mg W (kwM m 0 kn (fun xs zs => pick ix xs (zs ++ dD)) (pureM []) mk)) := by
  subst hkn
  refine PE.imp (pe_callKD0 F hr hgd hg hm hk hb (pickV_rel hvd) (fun σ => passAt tk σ) hkw hall hks hdb hpl) fun σ H Q h => ?_
  have q := kwD_core hmb (pickD_rel hrel') h
  obtain ⟨c, rfl, rfl, rc, p⟩ := q
  exact Post.now (c := c) p rc [] rfl

end
end Mir
/-! M21: all, any of lists of bools; index of a sign; int of a text or an int. -/
namespace Mir
open PySem PySem.Spec PyProof.Rows L2
def blsD : List D → Option (List Bool)
  | [] => some []
  | d :: ds => match d, blsD ds with
    | .bl b, some bs => some (b :: bs)
    | _, _ => none
section
variable {K : PySem.W.Frag} {mg : Str → Option Value} {W : WX} {X : Cx}
theorem blsD_rep {ι : List Addr} {F : Hp} : ∀ {ds : List D} {vs : List V} {bs : List Bool}, RepL K mg ι F ds vs → blsD ds = some bs → vs = bs.map V.bl
  | [], _, _, h, e => by
    cases e
    exact h
  | d :: ds, _, _, h, e => by
    obtain ⟨v, w, rfl, q, l⟩ := h
    unfold blsD at e
    split at e
    · rename_i y ys hy
      cases e
      obtain rfl : v = .bl y := q
      rw [blsD_rep l hy]
      rfl
    · cases e
def boolsD (f : List Bool → Bool) (st : List Cell) : List D → Option D
  | [x] => match lstOf st x with
    | some ds => (blsD ds).map fun bs => D.bl (f bs)
    | none => none
  | _ => none
theorem bools_core {f : List Bool → Bool} {c : Cfg} {xs : List D} {d : D} {vs : List V} {Q : VK} (rc : Rep K mg c) (hv : RepL K mg c.h.ι c.h.F xs vs) (e : boolsD f c.h.st xs = some d)
    (k : ∀ u, RepV K mg c.h.ι c.h.F d u → Q u c.h.H) : ∃ (a : Addr) (bs : List Bool), vs = [V.ref a] ∧ SqL K c.h.H a (bs.map V.bl) ∧ Q (.bl (f bs)) c.h.H := by
  unfold boolsD at e
  split at e
  · rename_i x
    obtain ⟨v, rfl, h1⟩ := repL1 hv
    cases hl : lstOf c.h.st x with
    | none =>
      rw [hl] at e
      cases e
    | some ds =>
      rw [hl] at e
      dsimp only at e
      cases hb : blsD ds with
      | none =>
        rw [hb] at e
        cases e
      | some bs =>
        rw [hb] at e
        cases e
        obtain ⟨a, ws, rfl, q, l⟩ := lstOf_rep rc.rc hl h1
        have ew := blsD_rep l hb
        subst ew
        exact ⟨a, bs, rfl, q, k _ rfl⟩
  · cases e
theorem cf_all (hc : X.calm = true) : CallF X mg (.builtin "all") (boolsD fun bs => bs.all id) :=
  ⟨_, cr_all hc, fun c xs d vs Q rc hv e k => bools_core rc hv e fun u hu => k c rfl rfl rc Ext0.refl u hu⟩
theorem cf_any (hc : X.calm = true) : CallF X mg (.builtin "any") (boolsD fun bs => bs.any id) :=
  ⟨_, cr_any hc, fun c xs d vs Q rc hv e k => bools_core rc hv e fun u hu => k c rfl rfl rc Ext0.refl u hu⟩
def indexD (_ : List Cell) (a : Str) : D → Option D
  | .str b => match Builtin.Str.occurrences a b 0 a.length 1 with
    | i :: _ => some (.int (i : Nat))
    | [] => none
  | _ => none
theorem mf_index : MethF X mg "str.index" indexD := by
  refine ⟨_, mt_sindex, fun c a y d w Q rc hw e k => ?_⟩
  unfold indexD at e
  split at e
  · rename_i b
    obtain rfl : w = .str b := hw
    split at e
    · rename_i i rest ho
      cases e
      exact ⟨a, b, i, rest, rfl, rfl, ho, k c rfl rfl rc Ext0.refl _ rfl⟩
    · cases e
  · cases e
theorem slot_index : Slot "str" "index" "str.index" := F.slot_str_index
theorem ty_index : typeOf (.builtin "str.index") = pure (.type "method_descriptor") := F.type_str_index
/-- int(..) of an int, a bool, a text -/
def int2D (st : List Cell) : List D → Option D
  | [.str a] => match PySem.intText? a with
    | some n => if a.length ≤ 640 then some (.int n) else none
    | none => none
  | xs => intD st xs
theorem cf_int2 : CallF X mg (.type "int") int2D := by
  refine ⟨_, call_int1.or call_int_str, fun c xs d vs Q rc hv e k => ?_⟩
  unfold int2D at e
  split at e
  · rename_i a
    obtain ⟨v, rfl, h1⟩ := repL1 hv
    obtain rfl : v = .str a := h1
    split at e
    · rename_i n hn
      by_cases hz : a.length ≤ 640
      · rw [if_pos hz] at e
        cases e
        exact .inr ⟨a, n, rfl, hn, hz, k c rfl rfl rc Ext0.refl _ rfl⟩
      · rw [if_neg hz] at e
        cases e
    · cases e
  · left
    unfold intD at e
    split at e
    · rename_i i _
      cases e
      obtain ⟨v, rfl, h1⟩ := repL1 hv
      obtain rfl : v = .int i := h1
      exact .inl ⟨i, rfl, k c rfl rfl rc Ext0.refl _ rfl⟩
    · rename_i b _
      cases e
      obtain ⟨v, rfl, h1⟩ := repL1 hv
      obtain rfl : v = .bl b := h1
      exact .inr ⟨b, rfl, k c rfl rfl rc Ext0.refl _ rfl⟩
    · cases e
/-- a.split(b) as a new list that nobody holds -/
def splitL (ma mb : M D) : M (List D) := bindM ma fun x => match x with
  | .str a => bindM mb fun y s => (match y with
    | .str b => (if (b.length == 0) = false ∧ a.length + 2 ≤ sizeLine then .ok ((Txt.split a b).map D.str) s else .bad)
    | _ => .bad)
  | _ => badM
variable {o e : Expr} {ma mb : M D} {apos pos : Pos}
theorem mfl_split (ho : PE X o (T X.K mg W ma)) (he : PE X e (T X.K mg W mb)) (hs : starEach [e] X.env = [(false, eval e X.env)] := by rfl) (hbase : attributeBase o "split" X.env (eval o X.env) = eval o X.env := by rfl) (hline : (apos.endLine == pos.line) = true := by rfl) :
    PE X (.Call (.Attribute o "split" apos) [e] [] pos) (TFl X.K mg W (splitL ma mb)) := by
  refine PE.imp (pe_m1 F.slot_str_split F.type_str_split mt_split ho he hs hbase hline) fun σ H Q q => ?_
  obtain ⟨c, rfl, rfl, rc, z⟩ := q
  refine ⟨c, rfl, rfl, rc, ?_⟩
  unfold splitL bindM at z
  cases e1 : ma c.s with
  | bad =>
    rw [e1] at z
    exact z
  | exc y s =>
    rw [e1] at z
    exact z
  | ok dx s =>
    rw [e1] at z
    intro c1 es1 eσ1 r1 x1 v hv
    cases dx with
    | str a =>
      obtain rfl : v = .str a := hv
      refine ⟨⟨a, rfl⟩, c1, eσ1, rfl, r1, ?_⟩
      rw [es1]
      replace z : Post X.K mg W c (fun ds c' => ∀ (p : Addr) (ws : List V), Fl c' p ws → c.h.H p = none → RepL X.K mg c'.h.ι c'.h.F ds ws → Q (.ref p) c'.h.H) ((mb s).bind fun y s => (match y with
        | .str b => (if (b.length == 0) = false ∧ a.length + 2 ≤ sizeLine then .ok ((Txt.split a b).map D.str) s else .bad)
        | _ => .bad)) := z
      cases e2 : mb s with
      | bad =>
        rw [e2] at z
        exact z
      | exc y s2 =>
        rw [e2] at z
        exact Post.shift (α := D) (P := fun _ _ => True) (r := .exc y s2) z eσ1 x1
      | ok dy s2 =>
        rw [e2] at z
        intro c2 es2 eσ2 r2 x2 w hw
        cases dy with
        | str b =>
          obtain rfl : w = .str b := hw
          replace z : Post X.K mg W c (fun ds c' => ∀ (p : Addr) (ws : List V), Fl c' p ws → c.h.H p = none → RepL X.K mg c'.h.ι c'.h.F ds ws → Q (.ref p) c'.h.H) (if (b.length == 0) = false ∧ a.length + 2 ≤ sizeLine then .ok ((Txt.split a b).map D.str) s2 else .bad) := z
          by_cases hz : (b.length == 0) = false ∧ a.length + 2 ≤ sizeLine
          · rw [if_pos hz] at z
            refine ⟨a, b, rfl, rfl, hz.1, hz.2, fun p hp => ?_⟩
            have x12 := x1.trans x2
            have h0 : c.h.H p = none := x12.dom p hp
            have hM := noMu r2 hp
            exact z (c2.fl p (.lst ((Txt.split a b).map V.str))) es2 (eσ2.trans eσ1) (r2.fl (r2.rc.fnone hp) hM) (Ext.fl (c := c2) x12 h0) p _ ⟨upd_same, r2.rc.fnone hp, hM⟩ h0 (strsD_back _)
          · rw [if_neg hz] at z
            exact z.elim
        | _ => exact z.elim
    | _ => exact z.elim
end
end Mir
/-! M22: plain data (no cells inside): ==, repr; facts that steps ask, by the form of the data. -/
namespace Mir
open PySem L2
/-! ### plain data -/
mutual
def okP : D → Prop
  | .non => True
  | .bl _ => True
  | .int i => i.natAbs < 10 ^ 40
  | .str x => PyData.strOk x = true
  | .lst xs => okPL xs
  | .tup xs => okPL xs
  | _ => False
def okPL : List D → Prop
  | [] => True
  | d :: ds => okP d ∧ okPL ds
end
mutual
def dep : D → Nat
  | .lst xs => depL xs + 1
  | .tup xs => depL xs + 1
  | _ => 0
def depL : List D → Nat
  | [] => 0
  | d :: ds => max (dep d) (depL ds)
end
mutual
def wtD : D → Nat
  | .str x => x.length
  | .lst xs => wtL xs
  | .tup xs => wtL xs
  | _ => 0
def wtL : List D → Nat
  | [] => 0
  | d :: ds => wtD d + 1 + wtL ds
end
mutual
def pd : D → PyData
  | .bl b => .bool b
  | .int i => .int i
  | .str x => .str x
  | .lst xs => .list (pdL xs)
  | .tup xs => .tuple (pdL xs)
  | _ => .none
def pdL : List D → List PyData
  | [] => []
  | d :: ds => pd d :: pdL ds
end
theorem shown_int_len {i : Int} (h : i.natAbs < 10 ^ 40) : (PyData.shown (.int i)).length ≤ 41 := by
  have e := int_text_length_le10 (k := 40) (by decide) h
  show (Str.ofString (toString i)).length ≤ 41
  rw [ofString_length]
  exact e
theorem log40 {i : Int} (h : i.natAbs < 10 ^ 40) : i.natAbs.log2 < 1000 := by
  have := log2_lt (n := i.natAbs) (k := 133) (by
    have e : (2 : Nat) ^ 133 > 10 ^ 40 := by decide
    omega) (by decide)
  omega
mutual
theorem py_pd (st : List Cell) : ∀ (d : D) (n : Nat), okP d → dep d ≤ n → py st (n + 1) d = some (pd d)
  | .non, _, _, _ => rfl
  | .bl _, _, _, _ => rfl
  | .int _, _, _, _ => rfl
  | .str x, _, h, _ => by
    have h' : PyData.strOk x = true := by simpa only [okP] using h
    show (if PyData.strOk x then some (PyData.str x) else none) = _
    rw [if_pos h']
    rfl
  | .lst xs, n, h, k => by
    simp only [dep] at k
    obtain ⟨m, rfl⟩ : ∃ m, n = m + 1 := ⟨n - 1, by omega⟩
    show (pyL (py st (m + 1)) xs).map PyData.list = _
    rw [pyL_pd st xs m (by simpa only [okP] using h) (by omega)]
    rfl
  | .tup xs, n, h, k => by
    simp only [dep] at k
    obtain ⟨m, rfl⟩ : ∃ m, n = m + 1 := ⟨n - 1, by omega⟩
    show (pyL (py st (m + 1)) xs).map PyData.tuple = _
    rw [pyL_pd st xs m (by simpa only [okP] using h) (by omega)]
    rfl
  | .ref _, _, h, _ => by simp only [okP] at h
  | .dct _ _, _, h, _ => by simp only [okP] at h
  | .exc _ _ _, _, h, _ => by simp only [okP] at h
  | .rng _ _, _, h, _ => by simp only [okP] at h
  | .ty _, _, h, _ => by simp only [okP] at h
  | .cls _, _, h, _ => by simp only [okP] at h
theorem pyL_pd (st : List Cell) : ∀ (ds : List D) (n : Nat), okPL ds → depL ds ≤ n → pyL (py st (n + 1)) ds = some (pdL ds)
  | [], _, _, _ => rfl
  | d :: ds, n, h, k => by
    simp only [okPL] at h
    simp only [depL] at k
    unfold pyL
    rw [py_pd st d n h.1 (by omega), pyL_pd st ds n h.2 (by omega)]
    rfl
end
mutual
theorem pd_show : ∀ (d : D), okP d → (pd d).showable = true ∧ (pd d).leavesShort 41 = true ∧ (pd d).bulk = wtD d ∧ (pd d).canLay0 = true
  | .non, _ => ⟨by simp [pd, PyData.showable], by simp [pd, PyData.leavesShort], by simp [pd, PyData.bulk, wtD], by simp [pd, PyData.canLay0]⟩
  | .bl _, _ => ⟨by simp [pd, PyData.showable], by simp [pd, PyData.leavesShort], by simp [pd, PyData.bulk, wtD], by simp [pd, PyData.canLay0]⟩
  | .int i, h => ⟨by simp only [pd, PyData.showable, decide_eq_true_eq]; have := log40 (i := i) (by simpa only [okP] using h); omega, by simp only [pd, PyData.leavesShort, decide_eq_true_eq]; exact shown_int_len (by simpa only [okP] using h), by simp [pd, PyData.bulk, wtD], by simp [pd, PyData.canLay0]⟩
  | .str x, h => by
    have h' : PyData.strOk x = true := by simpa only [okP] using h
    refine ⟨by simp [pd, PyData.showable], ?_, by simp [pd, PyData.bulk, wtD, Str.length], by simp only [pd, PyData.canLay0]; exact h'⟩
    simp only [pd, PyData.leavesShort, List.all_eq_true, decide_eq_true_eq]
    intro c hc
    unfold PyData.strOk at h'
    rw [← Array.all_toList, List.all_eq_true] at h'
    have := h' c hc
    rw [decide_eq_true_eq] at this
    have e : (16 : Nat) ^ 8 = 4294967296 := by decide
    omega
  | .lst xs, h => by
    obtain ⟨a, b, c, e⟩ := pdL_show xs (by simpa only [okP] using h)
    exact ⟨by simp only [pd, PyData.showable]; exact a, by simp only [pd, PyData.leavesShort]; exact b, by simp only [pd, PyData.bulk, wtD]; exact c, by simp only [pd, PyData.canLay0]; exact e⟩
  | .tup xs, h => by
    obtain ⟨a, b, c, e⟩ := pdL_show xs (by simpa only [okP] using h)
    exact ⟨by simp only [pd, PyData.showable]; exact a, by simp only [pd, PyData.leavesShort]; exact b, by simp only [pd, PyData.bulk, wtD]; exact c, by simp only [pd, PyData.canLay0]; exact e⟩
  | .ref _, h => by simp only [okP] at h
  | .dct _ _, h => by simp only [okP] at h
  | .exc _ _ _, h => by simp only [okP] at h
  | .rng _ _, h => by simp only [okP] at h
  | .ty _, h => by simp only [okP] at h
  | .cls _, h => by simp only [okP] at h
theorem pdL_show : ∀ (ds : List D), okPL ds → PyData.showableAll (pdL ds) = true ∧ PyData.leavesShortAll 41 (pdL ds) = true ∧ PyData.bulkAll (pdL ds) = wtL ds ∧ PyData.canLayAll0 (pdL ds) = true
  | [], _ => ⟨by simp [pdL, PyData.showableAll], by simp [pdL, PyData.leavesShortAll], by simp [pdL, PyData.bulkAll, wtL], by simp [pdL, PyData.canLayAll0]⟩
  | d :: ds, h => by
    simp only [okPL] at h
    obtain ⟨a, b, c, e⟩ := pd_show d h.1
    obtain ⟨a', b', c', e'⟩ := pdL_show ds h.2
    refine ⟨?_, ?_, ?_, ?_⟩
    · simp only [pdL, PyData.showableAll, a, a', Bool.and_self]
    · simp only [pdL, PyData.leavesShortAll, b, b', Bool.and_self]
    · simp only [pdL, PyData.bulkAll, wtL, c, c']
    · simp only [pdL, PyData.canLayAll0, e, e', Bool.and_self]
end
theorem okPL_all : ∀ {ds : List D}, okPL ds ↔ ∀ d ∈ ds, okP d
  | [] => by simp [okPL]
  | d :: ds => by simp only [okPL, List.forall_mem_cons, okPL_all]
theorem depL_le {n : Nat} : ∀ {ds : List D}, depL ds ≤ n ↔ ∀ d ∈ ds, dep d ≤ n
  | [] => by simp [depL]
  | d :: ds => by
    simp only [depL, List.forall_mem_cons, ← depL_le (ds := ds)]
    omega
theorem wtL_le {w : Nat} : ∀ {ds : List D}, (∀ d ∈ ds, wtD d ≤ w) → wtL ds ≤ ds.length * (w + 1)
  | [], _ => by simp [wtL]
  | d :: ds, h => by
    rw [List.forall_mem_cons] at h
    have := wtL_le h.2
    rw [List.length_cons, Nat.succ_mul]
    simp only [wtL]
    omega
theorem okPL_append {a b : List D} : okPL (a ++ b) ↔ okPL a ∧ okPL b := by
  simp only [okPL_all, List.mem_append, or_imp, forall_and]
theorem depL_append {a b : List D} : depL (a ++ b) = max (depL a) (depL b) := by
  induction a with
  | nil => simp [depL]
  | cons d ds ih =>
    simp only [List.cons_append, depL, ih]
    omega
theorem wtL_append {a b : List D} : wtL (a ++ b) = wtL a + wtL b := by
  induction a with
  | nil => simp [wtL]
  | cons d ds ih =>
    simp only [List.cons_append, wtL, ih]
    omega
/-- plain data of any size -/
structure Pl (x : D) : Prop where
  ok : okP x
  dp : dep x ≤ 18
/-- .. that can be shown -/
structure Sh (x : D) : Prop where
  ok : okP x
  dp : dep x ≤ 18
  wt : wtD x ≤ 200000
theorem Sh.pl {x : D} (h : Sh x) : Pl x := ⟨h.ok, h.dp⟩
theorem Pl.py {x : D} (h : Pl x) (st : List Cell) : py st 20 x = some (pd x) := py_pd st x 19 h.ok (by have := h.dp; omega)
theorem Pl.pyL {xs : List D} (h : Pl (.lst xs)) (st : List Cell) : pyL (Mir.py st 19) xs = some (pdL xs) := pyL_pd st xs 18 (by simpa only [okP] using h.ok) (by have := h.dp; simp only [dep] at this; omega)
def rp (x : D) : Str := (pd x).shown
theorem shown_fit {x : D} (h : Sh x) : (pd x).shown.length ≤ sizeLine := by
  obtain ⟨a, b, c, _⟩ := pd_show x h.ok
  have q := PyData.shown_le_bulk 41 (by decide) (pd x) b
  have := h.wt
  rw [c] at q
  rw [sizeLine_eq]
  omega
section
variable {st : List Cell} {Q : D → Prop} {x y : D}
theorem q_repr (h : Sh x) (q : Q (.str (rp x))) : ∃ d, reprD st [x] = some d ∧ Q d := by
  refine ⟨_, ?_, q⟩
  unfold reprD
  dsimp only
  rw [h.pl.py st]
  dsimp only
  rw [if_pos ⟨(pd_show x h.ok).1, shown_fit h⟩]
  rfl
theorem q_reprR {k : Nat} {xs : List D} (e : st[k]? = some (.lst xs)) (h : Sh (.lst xs)) (q : Q (.str (rp (.lst xs)))) : ∃ d, reprD st [.ref k] = some d ∧ Q d := by
  refine ⟨_, ?_, q⟩
  have e2 : py st 20 (.ref k) = some (pd (.lst xs)) := by
    show (match st[k]? with
      | some (.lst xs) => (pyL (py st 19) xs).map PyData.list
      | _ => none) = _
    rw [e]
    dsimp only
    rw [h.pl.pyL st]
    rfl
  unfold reprD
  dsimp only
  rw [e2]
  dsimp only
  rw [if_pos ⟨(pd_show _ h.ok).1, shown_fit h⟩]
  rfl
theorem eqv_pd (h : okP x) : PyData.eqv (pd x) (pd x) = true := SeqAt.eqv_refl _ (pd_show x h).2.2.2
theorem eqD_py {p q : PyData} (h : py st 20 x = some p) (k : py st 20 y = some q) : eqD st x y = some (PyData.eqv p q) := by
  have gen : (match py st 20 x, py st 20 y with
    | some p, some q => some (PyData.eqv p q)
    | _, _ => none) = some (PyData.eqv p q) := by rw [h, k]
  cases x with
  | str a =>
    cases y with
    | str b =>
      simp only [py] at h k
      by_cases ha : PyData.strOk a = true
      · rw [if_pos ha] at h
        by_cases hb : PyData.strOk b = true
        · rw [if_pos hb] at k
          cases h
          cases k
          show some (decide (a = b)) = _
          have e : PyData.eqv (.str a) (.str b) = decide (a = b) := by
            unfold PyData.eqv
            by_cases z : a = b
            · subst z
              simp
            · rw [decide_eq_false z]
              simpa using z
          rw [e]
        · rw [if_neg hb] at k
          cases k
      · rw [if_neg ha] at h
        cases h
    | _ => exact gen
  | _ => exact gen
theorem q_eqSame (h : Pl x) (q : Q (.bl true)) : ∃ d, fEq st x x = some d ∧ Q d := ⟨_, by unfold fEq; rw [eqD_py (h.py st) (h.py st), eqv_pd h.ok]; rfl, q⟩
theorem q_neSame (h : Pl x) (q : Q (.bl false)) : ∃ d, fNe st x x = some d ∧ Q d := ⟨_, by unfold fNe; rw [eqD_py (h.py st) (h.py st), eqv_pd h.ok]; rfl, q⟩
theorem q_eqPl (h : Pl x) (k : Pl y) (q : Q (.bl (PyData.eqv (pd x) (pd y)))) : ∃ d, fEq st x y = some d ∧ Q d := ⟨_, by unfold fEq; rw [eqD_py (h.py st) (k.py st)]; rfl, q⟩
theorem q_nePl (h : Pl x) (k : Pl y) (q : Q (.bl (!PyData.eqv (pd x) (pd y)))) : ∃ d, fNe st x y = some d ∧ Q d := ⟨_, by unfold fNe; rw [eqD_py (h.py st) (k.py st)]; rfl, q⟩
theorem eqv_nil (xs : List D) : PyData.eqv (pd (.lst xs)) (pd (.lst [])) = decide (xs = []) := by
  cases xs with
  | nil => simp [pd, pdL, PyData.eqv, PyData.eqvAll]
  | cons x xs =>
    rw [decide_eq_false (by simp)]
    simp [pd, pdL, PyData.eqv, PyData.eqvAll]
theorem q_eqNil {xs : List D} (h : Pl (.lst xs)) (q : Q (.bl (decide (xs = [])))) : ∃ d, fEq st (.lst xs) (.lst []) = some d ∧ Q d := q_eqPl h ⟨by simp [okP, okPL], by simp [dep, depL]⟩ (by rw [eqv_nil]; exact q)
theorem q_neNil {xs : List D} (h : Pl (.lst xs)) (q : Q (.bl (!decide (xs = [])))) : ∃ d, fNe st (.lst xs) (.lst []) = some d ∧ Q d := q_nePl h ⟨by simp [okP, okPL], by simp [dep, depL]⟩ (by rw [eqv_nil]; exact q)
/-! ### operators by the form of the data -/
theorem q_addI {i j : Int} (q : Q (.int (i + j))) : ∃ d, addD st (.int i) (.int j) = some d ∧ Q d := ⟨_, rfl, q⟩
theorem q_addS {a b : Str} (h : a.length + b.length ≤ 1000000) (q : Q (.str (a ++ b))) : ∃ d, addD st (.str a) (.str b) = some d ∧ Q d := ⟨_, by unfold addD; dsimp only; rw [if_pos (by rw [sizeLine_eq]; omega)], q⟩
theorem q_addT {a b : List D} (h : a.length + b.length ≤ 1000000) (q : Q (.tup (a ++ b))) : ∃ d, addD st (.tup a) (.tup b) = some d ∧ Q d := ⟨_, by unfold addD; dsimp only; rw [if_pos (by rw [sizeLine_eq]; omega)], q⟩
theorem q_addLL {a b : List D} (h : a.length + b.length ≤ 1000000) (q : Q (.lst (a ++ b))) : ∃ d, addD st (.lst a) (.lst b) = some d ∧ Q d := ⟨_, by unfold addD; dsimp only [lstOf]; rw [if_pos (by rw [sizeLine_eq]; omega)], q⟩
theorem q_subI {i j : Int} (q : Q (.int (i - j))) : ∃ d, ii (fun i j => some (iSub i j)) st (.int i) (.int j) = some d ∧ Q d := ⟨_, rfl, q⟩
theorem q_ltI {i j : Int} (q : Q (.bl (decide (i < j)))) : ∃ d, ii (fun i j => some (iLt i j)) st (.int i) (.int j) = some d ∧ Q d := ⟨_, rfl, q⟩
theorem q_leI {i j : Int} (q : Q (.bl (decide (i ≤ j)))) : ∃ d, ii (fun i j => some (iLe i j)) st (.int i) (.int j) = some d ∧ Q d := ⟨_, rfl, q⟩
theorem q_gtI {i j : Int} (q : Q (.bl (decide (j < i)))) : ∃ d, ii (fun i j => some (iGt i j)) st (.int i) (.int j) = some d ∧ Q d := ⟨_, rfl, q⟩
theorem q_geI {i j : Int} (q : Q (.bl (decide (j ≤ i)))) : ∃ d, ii (fun i j => some (iGe i j)) st (.int i) (.int j) = some d ∧ Q d := ⟨_, rfl, q⟩
theorem q_eqI {i j : Int} (q : Q (.bl (decide (i = j)))) : ∃ d, fEq st (.int i) (.int j) = some d ∧ Q d := ⟨_, fEq_int _ _ _, q⟩
theorem q_neI {i j : Int} (q : Q (.bl (!decide (i = j)))) : ∃ d, fNe st (.int i) (.int j) = some d ∧ Q d := ⟨_, fNe_int _ _ _, q⟩
theorem q_eqSS {i : Str} (q : Q (.bl true)) : ∃ d, fEq st (.str i) (.str i) = some d ∧ Q d := ⟨_, fEq_same _ _, q⟩
theorem q_neSS {i : Str} (q : Q (.bl false)) : ∃ d, fNe st (.str i) (.str i) = some d ∧ Q d := ⟨_, fNe_same _ _, q⟩
theorem q_eqS {i j : Str} (q : Q (.bl (decide (i = j)))) : ∃ d, fEq st (.str i) (.str j) = some d ∧ Q d := ⟨_, fEq_str _ _ _, q⟩
theorem q_neS {i j : Str} (q : Q (.bl (!decide (i = j)))) : ∃ d, fNe st (.str i) (.str j) = some d ∧ Q d := ⟨_, fNe_str _ _ _, q⟩
theorem q_isN (q : Q (.bl (isNon x))) : ∃ d, fIs st x .non = some d ∧ Q d := ⟨_, rfl, q⟩
theorem q_isNN (q : Q (.bl (!isNon x))) : ∃ d, fIsN st x .non = some d ∧ Q d := ⟨_, rfl, q⟩
theorem q_isN_non  (q : Q (.bl true)) : ∃ d, fIs st .non .non = some d ∧ Q d := ⟨_, rfl, q⟩
theorem q_isNN_non  (q : Q (.bl false)) : ∃ d, fIsN st .non .non = some d ∧ Q d := ⟨_, rfl, q⟩
theorem q_isN_bl {b : Bool} (q : Q (.bl false)) : ∃ d, fIs st (.bl b) .non = some d ∧ Q d := ⟨_, rfl, q⟩
theorem q_isNN_bl {b : Bool} (q : Q (.bl true)) : ∃ d, fIsN st (.bl b) .non = some d ∧ Q d := ⟨_, rfl, q⟩
theorem q_isN_int {i : Int} (q : Q (.bl false)) : ∃ d, fIs st (.int i) .non = some d ∧ Q d := ⟨_, rfl, q⟩
theorem q_isNN_int {i : Int} (q : Q (.bl true)) : ∃ d, fIsN st (.int i) .non = some d ∧ Q d := ⟨_, rfl, q⟩
theorem q_isN_str {s : Str} (q : Q (.bl false)) : ∃ d, fIs st (.str s) .non = some d ∧ Q d := ⟨_, rfl, q⟩
theorem q_isNN_str {s : Str} (q : Q (.bl true)) : ∃ d, fIsN st (.str s) .non = some d ∧ Q d := ⟨_, rfl, q⟩
theorem q_isN_lst {xs : List D} (q : Q (.bl false)) : ∃ d, fIs st (.lst xs) .non = some d ∧ Q d := ⟨_, rfl, q⟩
theorem q_isNN_lst {xs : List D} (q : Q (.bl true)) : ∃ d, fIsN st (.lst xs) .non = some d ∧ Q d := ⟨_, rfl, q⟩
theorem q_isN_tup {xs : List D} (q : Q (.bl false)) : ∃ d, fIs st (.tup xs) .non = some d ∧ Q d := ⟨_, rfl, q⟩
theorem q_isNN_tup {xs : List D} (q : Q (.bl true)) : ∃ d, fIsN st (.tup xs) .non = some d ∧ Q d := ⟨_, rfl, q⟩
theorem q_isN_ref {n : Nat} (q : Q (.bl false)) : ∃ d, fIs st (.ref n) .non = some d ∧ Q d := ⟨_, rfl, q⟩
theorem q_isNN_ref {n : Nat} (q : Q (.bl true)) : ∃ d, fIsN st (.ref n) .non = some d ∧ Q d := ⟨_, rfl, q⟩
theorem q_isN_dct {ks : List Key} {vs : List D} (q : Q (.bl false)) : ∃ d, fIs st (.dct ks vs) .non = some d ∧ Q d := ⟨_, rfl, q⟩
theorem q_isNN_dct {ks : List Key} {vs : List D} (q : Q (.bl true)) : ∃ d, fIsN st (.dct ks vs) .non = some d ∧ Q d := ⟨_, rfl, q⟩
theorem q_isN_exc {C : Str} {fs : List Str} {vs : List D} (q : Q (.bl false)) : ∃ d, fIs st (.exc C fs vs) .non = some d ∧ Q d := ⟨_, rfl, q⟩
theorem q_isNN_exc {C : Str} {fs : List Str} {vs : List D} (q : Q (.bl true)) : ∃ d, fIsN st (.exc C fs vs) .non = some d ∧ Q d := ⟨_, rfl, q⟩
def intsIn (lo hi : Int) : List D → Bool
  | [] => true
  | .int p :: xs => decide (lo ≤ p) && decide (p ≤ hi) && intsIn lo hi xs
  | _ => false
theorem intsIn_mem {lo hi : Int} : ∀ {xs : List D}, intsIn lo hi xs = true → ∀ x ∈ xs, ∃ p, x = .int p ∧ lo ≤ p ∧ p ≤ hi
  | [], _, _, h => by cases h
  | x :: xs, e, y, h => by
    unfold intsIn at e
    split at e
    · rename_i z
      cases z
    · rename_i p ys z
      cases z
      rw [Bool.and_eq_true, Bool.and_eq_true, decide_eq_true_eq, decide_eq_true_eq] at e
      rcases List.mem_cons.mp h with rfl | h
      · exact ⟨_, rfl, e.1.1, e.1.2⟩
      · exact intsIn_mem e.2 y h
    · cases e
theorem q_len {w : Str} (h : w.length ≤ 1000000) (q : Q (.int w.length)) : ∃ d, lenD st [.str w] = some d ∧ Q d := ⟨_, by unfold lenD; dsimp only; rw [if_pos (by rw [sizeLine_eq]; omega)], q⟩
theorem q_cut {a : Str} {lo hi : Option Int} (h : a.length ≤ 1000000) (q : Q (.str (cutS a lo hi))) : ∃ d, Mir.cutD st (.str a) lo hi = some d ∧ Q d := ⟨_, by unfold Mir.cutD; dsimp only; rw [if_pos (by rw [sizeLine_eq]; omega)], q⟩
theorem q_lenL {xs : List D} (q : Q (.int xs.length)) : ∃ d, lenD st [.lst xs] = some d ∧ Q d := ⟨_, rfl, q⟩
theorem q_str {i : Int} (h : i.natAbs.log2 < 1000) (q : Q (.str (toString i))) : ∃ d, strD st [.int i] = some d ∧ Q d := ⟨_, by unfold strD; dsimp only; rw [if_pos (by omega)], q⟩
/-! ### what is asked of a form -/
theorem q_truB {b : Bool} {R : Bool → Prop} (q : R b) : ∃ b', truD st (.bl b) = some b' ∧ R b' := ⟨_, rfl, q⟩
theorem q_asB {b : Bool} {R : Bool → Prop} (q : R b) : ∃ b', D.bl b = .bl b' ∧ R b' := ⟨_, rfl, q⟩
theorem q_asI {i : Int} {R : Int → Prop} (q : R i) : ∃ i', D.int i = .int i' ∧ R i' := ⟨_, rfl, q⟩
theorem q_asS {i : Str} {R : Str → Prop} (q : R i) : ∃ i', D.str i = .str i' ∧ R i' := ⟨_, rfl, q⟩
theorem q_asL {i : List D} {R : List D → Prop} (q : R i) : ∃ i', D.lst i = .lst i' ∧ R i' := ⟨_, rfl, q⟩
theorem q_asT {i : List D} {R : List D → Prop} (q : R i) : ∃ i', D.tup i = .tup i' ∧ R i' := ⟨_, rfl, q⟩
theorem q_pair {a b : D} {R : D → D → Prop} (q : R a b) : ∃ d d', [a, b] = [d, d'] ∧ R d d' := ⟨_, _, rfl, q⟩
theorem q_one {i : Int} {R : Int → Prop} (q : R i) : ∃ j, [D.int i] = [.int j] ∧ R j := ⟨_, rfl, q⟩
theorem q_size {xs : List D} {P : Prop} (h : xs.length ≤ 1000000) (q : P) : xs.length ≤ sizeLine ∧ P := ⟨by rw [sizeLine_eq]; omega, q⟩
theorem q_nk {α : Type} {xs zs : List α} {n k : Nat} {P : Prop} (h1 : xs.length = n) (h2 : zs.length = k) (q : P) : (xs.length = n ∧ zs.length = k) ∧ P := ⟨⟨h1, h2⟩, q⟩
theorem q_in62 {d : Int} {P : Prop} (h0 : -1000000000000 ≤ d) (h1 : d < 1000000000000) (q : P) : in62 d = true ∧ P := ⟨by
  unfold in62
  rw [Bool.and_eq_true, decide_eq_true_eq, decide_eq_true_eq]
  constructor <;> omega, q⟩
theorem q_chLt {i j : Int} {R : Bool → Prop} (q : R (decide (i < j))) : ∃ b, ii (fun i j => some (iLt i j)) st (.int i) (.int j) = some (.bl b) ∧ R b := ⟨_, rfl, q⟩
theorem q_chLe {i j : Int} {R : Bool → Prop} (q : R (decide (i ≤ j))) : ∃ b, ii (fun i j => some (iLe i j)) st (.int i) (.int j) = some (.bl b) ∧ R b := ⟨_, rfl, q⟩
theorem q_chGt {i j : Int} {R : Bool → Prop} (q : R (decide (j < i))) : ∃ b, ii (fun i j => some (iGt i j)) st (.int i) (.int j) = some (.bl b) ∧ R b := ⟨_, rfl, q⟩
theorem q_chGe {i j : Int} {R : Bool → Prop} (q : R (decide (j ≤ i))) : ∃ b, ii (fun i j => some (iGe i j)) st (.int i) (.int j) = some (.bl b) ∧ R b := ⟨_, rfl, q⟩
theorem q_max {i j : Int} (q : Q (.int (if i < j then j else i))) : ∃ d, max2D st [.int i, .int j] = some d ∧ Q d := ⟨_, rfl, q⟩
theorem q_min {i j : Int} (q : Q (.int (if j < i then j else i))) : ∃ d, min2D st [.int i, .int j] = some d ∧ Q d := ⟨_, rfl, q⟩
/-! ### ways -/
theorem br_t {A B : Prop} (a : A) : (true = true → A) ∧ (true = false → B) := ⟨fun _ => a, fun z => (by cases z)⟩
theorem br_f {A B : Prop} (b : B) : (false = true → A) ∧ (false = false → B) := ⟨fun z => (by cases z), fun _ => b⟩
theorem br_nt {A B : Prop} (b : B) : ((!true) = true → A) ∧ ((!true) = false → B) := ⟨fun z => (by cases z), fun _ => b⟩
theorem br_nf {A B : Prop} (a : A) : ((!false) = true → A) ∧ ((!false) = false → B) := ⟨fun _ => a, fun z => (by cases z)⟩
theorem br_dT {p : Prop} [Decidable p] {A B : Prop} (h : p) (a : A) : (decide p = true → A) ∧ (decide p = false → B) := ⟨fun _ => a, fun z => absurd h (of_decide_eq_false z)⟩
theorem br_dF {p : Prop} [Decidable p] {A B : Prop} (h : ¬ p) (b : B) : (decide p = true → A) ∧ (decide p = false → B) := ⟨fun z => absurd (of_decide_eq_true z) h, fun _ => b⟩
theorem br_d {p : Prop} [Decidable p] {A B : Prop} (a : p → A) (b : ¬ p → B) : (decide p = true → A) ∧ (decide p = false → B) := ⟨fun z => a (of_decide_eq_true z), fun z => b (of_decide_eq_false z)⟩
theorem br_ndT {p : Prop} [Decidable p] {A B : Prop} (h : p) (b : B) : ((!decide p) = true → A) ∧ ((!decide p) = false → B) := by
  rw [decide_eq_true h]
  exact br_nt b
theorem br_ndF {p : Prop} [Decidable p] {A B : Prop} (h : ¬ p) (a : A) : ((!decide p) = true → A) ∧ ((!decide p) = false → B) := by
  rw [decide_eq_false h]
  exact br_nf a
theorem br_nd {p : Prop} [Decidable p] {A B : Prop} (a : ¬ p → A) (b : p → B) : ((!decide p) = true → A) ∧ ((!decide p) = false → B) := by
  by_cases h : p
  · exact br_ndT h (b h)
  · exact br_ndF h (a h)
theorem br_b {c : Bool} {A B : Prop} (a : c = true → A) (b : c = false → B) : (c = true → A) ∧ (c = false → B) := ⟨a, b⟩
end
end Mir
/-! M23: texts, cuts, comprehensions: plain facts. -/
namespace Mir
open PySem L2 TL
abbrev sg (c : Nat) : D := .str ⟨#[c]⟩
def between (lo v hi : Int) : Bool := decide (lo ≤ v) && decide (v ≤ hi)
/-! ### texts -/
theorem tw_len {g : Nat → Bool} : ∀ l : List Nat, (l.takeWhile g).length = l.length ↔ ∀ c ∈ l, g c = true
  | [] => by simp
  | c :: l => by
    rw [List.takeWhile_cons]
    by_cases h : g c = true
    · rw [if_pos h, List.length_cons, List.length_cons, Nat.add_right_cancel_iff, tw_len l]
      simp [h]
    · rw [if_neg h]
      simp [h]
theorem tw_le {g : Nat → Bool} : ∀ l : List Nat, (l.takeWhile g).length ≤ l.length
  | [] => by simp
  | c :: l => by
    rw [List.takeWhile_cons]
    by_cases h : g c = true
    · rw [if_pos h, List.length_cons, List.length_cons]
      have := tw_le (g := g) l
      omega
    · rw [if_neg h]
      simp
theorem tw_drop {g : Nat → Bool} : ∀ (l : List Nat), (l.takeWhile g).length < l.length → ∃ c r, l.drop (l.takeWhile g).length = c :: r ∧ g c = false
  | [], h => by simp at h
  | c :: l, h => by
    rw [List.takeWhile_cons] at h ⊢
    by_cases hc : g c = true
    · rw [if_pos hc] at h ⊢
      rw [List.length_cons, List.length_cons] at h
      rw [List.length_cons, List.drop_succ_cons]
      exact tw_drop l (by omega)
    · rw [if_neg hc]
      exact ⟨c, l, rfl, by simpa using hc⟩
theorem str_nil (z : Str) : z = "" ↔ z.length = 0 := by
  constructor
  · intro h
    rw [h]
    rfl
  · intro h
    obtain ⟨a⟩ := z
    have e : a = #[] := Array.eq_empty_of_size_eq_zero h
    rw [e]
    rfl
theorem strip_none (x y : Str) : (Txt.stripChars x y = "") ↔ ∀ c ∈ x.cps.toList, c ∈ y.cps.toList := by
  rw [str_nil]
  have e : Txt.stripChars x y = PySem.W.stripped y.cps.contains true true x := PySem.W.stripBy_eq x y.cps.contains true true
  rw [e]
  show (Builtin.Str.strSub x (x.cps.toList.takeWhile y.cps.contains).length (x.length - ((x.cps.toList.drop (x.cps.toList.takeWhile y.cps.contains).length).reverse.takeWhile y.cps.contains).length)).length = 0 ↔ _
  rw [size_strSub _ _ _ (Nat.sub_le _ _)]
  have hl : x.length = x.cps.toList.length := by simp [Str.length]
  have le := tw_le (g := y.cps.contains) x.cps.toList
  have mem : (∀ c ∈ x.cps.toList, y.cps.contains c = true) ↔ ∀ c ∈ x.cps.toList, c ∈ y.cps.toList := by
    constructor
    · intro h c hc
      simpa using h c hc
    · intro h c hc
      simpa using h c hc
  rw [← mem, ← tw_len]
  constructor
  · intro h
    by_cases q : (x.cps.toList.takeWhile y.cps.contains).length < x.cps.toList.length
    · obtain ⟨c, r, e1, e2⟩ := tw_drop x.cps.toList q
      have e3 : (x.cps.toList.drop (x.cps.toList.takeWhile y.cps.contains).length).length = r.length + 1 := by rw [e1]; rfl
      rw [List.length_drop] at e3
      have short : ((x.cps.toList.drop (x.cps.toList.takeWhile y.cps.contains).length).reverse.takeWhile y.cps.contains).length ≠ r.length + 1 := by
        intro z
        have full := (tw_len (g := y.cps.contains) (x.cps.toList.drop (x.cps.toList.takeWhile y.cps.contains).length).reverse).mp (by rw [z, List.length_reverse, e1]; rfl)
        have := full c (by rw [e1]; simp)
        rw [e2] at this
        cases this
      have le2 := tw_le (g := y.cps.contains) (x.cps.toList.drop (x.cps.toList.takeWhile y.cps.contains).length).reverse
      rw [List.length_reverse, e1] at le2
      rw [e1] at short h
      simp only [List.length_cons] at le2
      omega
    · omega
  · intro h
    omega
theorem sz (w : Str) (h : w.length ≤ 1000) : w.length ≤ sizeLine := by
  rw [sizeLine_eq]
  omega
theorem py_signs (st : List Cell) (n : Nat) : ∀ cs : List Nat, (∀ c ∈ cs, c < 128) → pyL (py st (n + 1)) (cs.map fun c => D.str ⟨#[c]⟩) = some (cs.map fun c => PyData.str ⟨#[c]⟩)
  | [], _ => rfl
  | c :: cs, h => by
    rw [List.map_cons]
    unfold pyL
    rw [py_signs st n cs fun d hd => h d (List.mem_cons_of_mem _ hd)]
    have hc := h c (List.mem_cons_self ..)
    have e : PyData.strOk ⟨#[c]⟩ = true := by
      unfold PyData.strOk
      simp
      omega
    unfold py
    dsimp only
    rw [if_pos e]
    rfl
theorem signs_none (st : List Cell) (cs : List Nat) (h : ∀ c ∈ cs, c < 128) : fEq st (.lst (cs.map fun c => D.str ⟨#[c]⟩)) (.lst []) = some (.bl (decide (cs = []))) := by
  have e1 : py st 20 (.lst (cs.map fun c => D.str ⟨#[c]⟩)) = some (.list (cs.map fun c => PyData.str ⟨#[c]⟩)) := by
    show (pyL (py st 19) _).map PyData.list = _
    rw [py_signs st 18 cs h]
    rfl
  have e2 : py st 20 (.lst []) = some (.list []) := rfl
  unfold fEq eqD
  dsimp only
  rw [e1, e2]
  dsimp only
  cases cs with
  | nil =>
    rw [decide_eq_true rfl]
    simp [PyData.eqv, PyData.eqvAll]
  | cons c cs =>
    rw [decide_eq_false (by simp)]
    simp [PyData.eqv, PyData.eqvAll]
theorem atI_at {α : Type} {xs : List α} {i : Nat} {x : α} (h : xs[i]? = some x) : atI xs (i : Int) = some x := by
  have hl := (List.getElem?_eq_some_iff.mp h).1
  unfold atI ixN
  rw [if_pos (by omega), if_pos (by omega)]
  exact h
/-! ### texts that are drawn -/
def Asc (w : Str) : Prop := ∀ c ∈ w.cps.toList, c < 128
theorem Asc.app {a b : Str} (h : Asc a) (k : Asc b) : Asc (a ++ b) := fun c hc => by
  have e : (a ++ b).cps.toList = a.cps.toList ++ b.cps.toList := by
    show (a.cps ++ b.cps).toList = _
    simp
  rw [e, List.mem_append] at hc
  exact hc.elim (h c) (k c)
theorem Asc.one {n : Nat} (h : n < 128) : Asc ⟨#[n]⟩ := fun c hc => by
  have e : c = n := by simpa using hc
  rw [e]
  exact h
theorem Asc.cut {a : Str} {lo hi : Option Int} (h : Asc a) : Asc (cutS a lo hi) := fun c hc => by
  unfold cutS at hc
  simp only [List.toList_toArray] at hc
  exact h c (List.mem_of_mem_drop (List.mem_of_mem_take hc))
theorem len_cut (a : Str) (lo hi : Option Int) : (cutS a lo hi).length ≤ a.length := by
  unfold cutS
  show (List.toArray _).size ≤ _
  rw [List.size_toArray, List.length_take, List.length_drop]
  have : a.cps.toList.length = a.length := by simp [Str.length]
  omega
theorem len_app (a b : Str) : (a ++ b).length = a.length + b.length := by
  show (a.cps ++ b.cps).size = _
  simp [Str.length]
theorem q_sign {st : List Cell} {z : Str} {i : Int} {Q : D → Prop} (hz : z.length ≤ 1000000) (h0 : 0 ≤ i) (h1 : i < (z.length : Int)) (q : ∀ c ∈ z.cps.toList, Q (.str ⟨#[c]⟩)) : ∃ d, ixD st (.str z) (.int i) = some d ∧ Q d := by
  have hl : z.cps.toList.length = z.length := by simp [Str.length]
  have hi : i.toNat < z.cps.toList.length := by omega
  refine ⟨.str ⟨#[z.cps.toList[i.toNat]]⟩, ?_, q _ (List.getElem_mem hi)⟩
  unfold ixD
  dsimp only
  rw [if_pos (by rw [sizeLine_eq]; omega)]
  have e : (i.toNat : Int) = i := by omega
  have k := atI_at (xs := z.cps.toList) (i := i.toNat) (List.getElem?_eq_getElem hi)
  rw [e] at k
  rw [k]
  rfl
theorem join_signs : ∀ ys : List Nat, (Txt.join "" (ys.map fun c => (⟨#[c]⟩ : Str))) = ⟨ys.toArray⟩ := by
  intro ys
  have e : Txt.join "" (ys.map fun c => (⟨#[c]⟩ : Str)) = Str.join "" (ys.map fun c => (⟨#[c]⟩ : Str)) := StrLaws.glued_eq_join _ _
  rw [e]
  have ap : ∀ a b : Array Nat, ((⟨a⟩ : Str) ++ (⟨b⟩ : Str)) = ⟨a ++ b⟩ := fun _ _ => rfl
  induction ys with
  | nil => rfl
  | cons y ys ih =>
    cases ys with
    | nil => rfl
    | cons z ys =>
      have step : Str.join "" ((y :: z :: ys).map fun c => (⟨#[c]⟩ : Str)) = (⟨#[y]⟩ : Str) ++ "" ++ Str.join "" ((z :: ys).map fun c => (⟨#[c]⟩ : Str)) := rfl
      rw [step, ih (StrLaws.glued_eq_join _ _)]
      have em : ((⟨#[y]⟩ : Str) ++ "") = ⟨#[y]⟩ := rfl
      rw [em, ap]
      simp
theorem strs_signs (st : List Cell) : ∀ ys : List Nat, strsD st (ys.map fun c => D.str ⟨#[c]⟩) = some (ys.map fun c => (⟨#[c]⟩ : Str))
  | [] => rfl
  | y :: ys => by
    rw [List.map_cons]
    unfold strsD
    rw [strs_signs st ys]
    rfl
theorem sum_ones : ∀ ys : List Nat, ((ys.map fun c => (⟨#[c]⟩ : Str)).map (·.length)).sum = ys.length
  | [] => rfl
  | y :: ys => by
    rw [List.map_cons, List.map_cons, List.sum_cons, sum_ones ys, List.length_cons]
    show 1 + _ = _
    omega
theorem q_joinS {st : List Cell} {ys : List Nat} {Q : D → Prop} (h : ys.length ≤ 1000) (q : Q (.str ⟨ys.toArray⟩)) : ∃ d, joinD st "" (.lst (ys.map fun c => D.str ⟨#[c]⟩)) = some d ∧ Q d := by
  refine ⟨_, ?_, q⟩
  unfold joinD
  dsimp only [seqOf, lstOf]
  rw [strs_signs]
  dsimp only
  rw [if_pos, join_signs]
  rw [sum_ones, List.length_map]
  show ys.length + ys.length * 0 ≤ 16777216
  omega
theorem in62_small {d : Int} (h0 : 0 ≤ d) (h1 : d < 1000) : in62 d = true := by
  unfold in62
  rw [Bool.and_eq_true, decide_eq_true_eq, decide_eq_true_eq]
  constructor <;> omega
/-! ### found and due -/
theorem q_rep {st : List Cell} {a : List D} {k : Int} {Q : D → Prop} (h0 : 0 ≤ k) (h1 : k < 10000) (h : a.length ≤ 100) (q : Q (.lst (List.replicate k.toNat a).flatten)) : ∃ d, mulD st (.lst a) (.int k) = some d ∧ Q d := by
  have hz : a.length * k.toNat ≤ 100 * 10000 := Nat.mul_le_mul h (by omega)
  exact ⟨_, by unfold mulD; dsimp only [lstOf]; rw [if_pos ⟨by omega, by omega, by rw [sizeLine_eq]; omega⟩], q⟩
theorem q_ixL {st : List Cell} {xs : List D} {i : Int} {Q : D → Prop} (h0 : 0 ≤ i) (h1 : i < (xs.length : Int)) (q : ∀ x ∈ xs, Q x) : ∃ d, ixD st (.lst xs) (.int i) = some d ∧ Q d := by
  have hi : i.toNat < xs.length := by omega
  refine ⟨xs[i.toNat], ?_, q _ (List.getElem_mem hi)⟩
  show atI xs i = _
  have e : (i.toNat : Int) = i := by omega
  have k := atI_at (xs := xs) (i := i.toNat) (List.getElem?_eq_getElem hi)
  rw [e] at k
  exact k
theorem ge_btw {m1 m2 m3 : M D} {sl : SL} {st : List Cell} {E : Ex → List Cell → Prop} {P : D → List Cell → Prop}
    (h : Ge m1 sl st (fun x s1 => Ge m2 sl s1 (fun y s2 => Ge m3 sl s2 (fun z s3 => s3 = s2 ∧ ∃ a b c, x = .int a ∧ y = .int b ∧ z = .int c ∧ P (.bl (between a b c)) s2) fun _ _ => False) E) E) :
    Ge (chainM (ii fun i j => some (iLe i j)) (ii fun i j => some (iLe i j)) m1 m2 m3) sl st P E := by
  refine ge_chain (h.mono (fun x s1 h1 => h1.mono (fun y s2 h2 => ?_) fun _ _ z => z) fun _ _ z => z)
  have k : ∃ a b c, x = .int a ∧ y = .int b ∧ P (.bl (between a b c)) s2 := by
    have h4 := h2.is
    unfold GeD at h4
    cases e : m3 ⟨sl, s2⟩ with
    | ok z s =>
      rw [e] at h4
      obtain ⟨_, _, a, b, c, e1, e2, _, p⟩ := h4
      exact ⟨a, b, c, e1, e2, p⟩
    | exc z s =>
      rw [e] at h4
      exact h4.2.elim
    | bad =>
      rw [e] at h4
      exact h4.elim
  obtain ⟨a, b, c, rfl, rfl, p⟩ := k
  refine ⟨_, rfl, fun z => ?_, fun z => ?_⟩
  · refine h2.mono (fun w s3 h3 => ?_) fun _ _ z => z.elim
    obtain ⟨rfl, a', b', c', e1, e2, rfl, p'⟩ := h3
    cases e1
    cases e2
    refine ⟨_, rfl, ?_⟩
    unfold between at p'
    rw [show decide (a ≤ b) = true from z, Bool.true_and] at p'
    exact p'
  · unfold between at p
    rw [show decide (a ≤ b) = false from z, Bool.false_and] at p
    exact p
theorem q_btwI {st : List Cell} {i j k : Int} {R : Int → Int → Int → Prop} (q : R i j k) : st = st ∧ ∃ a b c, D.int i = .int a ∧ D.int j = .int b ∧ D.int k = .int c ∧ R a b c := ⟨rfl, _, _, _, rfl, rfl, rfl, q⟩
theorem q_ixB {st : List Cell} {xs : List D} {i : Int} {Q : D → Prop} (lo hi : Int) (hb : intsIn lo hi xs = true) (h0 : 0 ≤ i) (h1 : i < (xs.length : Int)) (q : ∀ p, lo ≤ p → p ≤ hi → Q (.int p)) : ∃ d, ixD st (.lst xs) (.int i) = some d ∧ Q d :=
  q_ixL h0 h1 fun x hx => by
    obtain ⟨p, rfl, a, b⟩ := intsIn_mem hb x hx
    exact q p a b
theorem q_signA {st : List Cell} {z : Str} {i : Int} {Q : D → Prop} (n : Nat) (hz : z.length = n) (hn : n ≤ 1000000) (hc : ∀ c ∈ z.cps.toList, c < 128) (h0 : 0 ≤ i) (h1 : i < (n : Int)) (q : ∀ c, c < 128 → c ∈ z.cps.toList → Q (sg c)) : ∃ d, ixD st (.str z) (.int i) = some d ∧ Q d :=
  q_sign (by omega) h0 (by omega) fun c h => q c (hc c h) h
theorem digit_text {d : Int} (h0 : 0 ≤ d) (h1 : d < 10) : Str.ofString (toString d) = ⟨#[48 + d.toNat]⟩ := by
  have k : ∀ i : Fin 10, Str.ofString (toString (i.val : Int)) = ⟨#[48 + i.val]⟩ := by decide +kernel
  have := k ⟨d.toNat, by omega⟩
  dsimp only at this
  rw [show ((d.toNat : Nat) : Int) = d by omega] at this
  exact this
theorem falses (n : Nat) : (List.replicate n [D.bl false]).flatten = (List.replicate n false).map D.bl := by
  induction n with
  | zero => rfl
  | succ n ih =>
    rw [List.replicate_succ, List.flatten_cons, ih, List.replicate_succ]
    rfl
/-- a comprehension over things that each give false -/
theorem comp_false {i : Nat} {mi : M (List D)} {m : M D} {sl : SL} {st : List Cell} {things : List D} {P : List D → List Cell → Prop} {E : Ex → List Cell → Prop} (hl : things.length ≤ 1000) (hno : noOwn sl [i] = true)
    (h : Ge mi sl st (fun items st' => items = things ∧ st' = st) E) (hs : ∀ d ∈ things, Ge m ((wipeG sl [i]).set i (some (.val d))) st (fun y st' => y = .bl false ∧ st' = st) fun _ _ => False)
    (q : P ((List.replicate things.length false).map D.bl) st) : Ge (compM [i] mi (setD i) (pureM true) m) sl st P E := by
  refine ge_comp (I := fun items acc st' => st' = st ∧ ∃ pre, things = pre ++ items ∧ acc = (List.replicate pre.length false).map D.bl) rfl hno (h.mono (fun items st' z => ⟨z.2, [], z.1.symm, rfl⟩) fun _ _ z => z) ?_ ?_
  · rintro d ds acc st' ⟨rfl, pre, e1, rfl⟩
    refine ge_pure ⟨fun _ => ?_, fun z => (by cases z)⟩
    refine (hs d (by rw [e1]; simp)).mono (fun y st' z => ?_) fun _ _ z => z
    obtain ⟨rfl, rfl⟩ := z
    have hlen : pre.length ≤ 1000 := by
      have := congrArg List.length e1
      rw [List.length_append] at this
      omega
    refine ⟨by rw [List.length_map, List.length_replicate, sizeLine_eq]; omega, rfl, pre ++ [d], by rw [e1]; simp, ?_⟩
    rw [List.length_append, List.length_singleton, List.replicate_succ', List.map_append]
    rfl
  · rintro acc st' ⟨rfl, pre, e1, rfl⟩
    rw [List.append_nil] at e1
    rw [← e1]
    exact q
theorem sl3 {α : Type} {xs : List α} (h : xs.length ≤ 1000) : xs.length ≤ sizeLine := by
  rw [sizeLine_eq]
  omega
theorem log100 {i : Int} (h0 : -1267650600228229401496703205376 < i) (h1 : i < 1267650600228229401496703205376) : i.natAbs.log2 < 100 := log2_lt (by
  have : (2 : Nat) ^ 100 = 1267650600228229401496703205376 := by decide +kernel
  omega) (by decide)
theorem prod_le {a p : Int} (h0 : -1000 ≤ a) (h1 : a ≤ 1001) (h2 : 0 < p) : -(1000 * p) ≤ a * p ∧ a * p ≤ 1001 * p := by
  constructor
  · have := Int.mul_le_mul_of_nonneg_right h0 (Int.le_of_lt h2)
    omega
  · exact Int.mul_le_mul_of_nonneg_right h1 (Int.le_of_lt h2)
/-- a comprehension over things that each give what f says -/
theorem comp_map {i : Nat} {mi : M (List D)} {m : M D} {sl : SL} {st : List Cell} {things : List D} (f : D → D) {P : List D → List Cell → Prop} {E : Ex → List Cell → Prop} (hl : things.length ≤ 1000) (hno : noOwn sl [i] = true)
    (h : Ge mi sl st (fun items st' => items = things ∧ st' = st) E) (hs : ∀ d ∈ things, Ge m ((wipeG sl [i]).set i (some (.val d))) st (fun y st' => y = f d ∧ st' = st) fun _ _ => False)
    (q : P (things.map f) st) : Ge (compM [i] mi (setD i) (pureM true) m) sl st P E := by
  refine ge_comp (I := fun items acc st' => st' = st ∧ ∃ pre, things = pre ++ items ∧ acc = pre.map f) rfl hno (h.mono (fun items st' z => ⟨z.2, [], z.1.symm, rfl⟩) fun _ _ z => z) ?_ ?_
  · rintro d ds acc st' ⟨rfl, pre, e1, rfl⟩
    refine ge_pure ⟨fun _ => ?_, fun z => (by cases z)⟩
    refine (hs d (by rw [e1]; simp)).mono (fun y st' z => ?_) fun _ _ z => z
    obtain ⟨rfl, rfl⟩ := z
    have hlen : pre.length ≤ 1000 := by
      have := congrArg List.length e1
      rw [List.length_append] at this
      omega
    refine ⟨by rw [List.length_map, sizeLine_eq]; omega, rfl, pre ++ [d], by rw [e1]; simp, ?_⟩
    rw [List.map_append]
    rfl
  · rintro acc st' ⟨rfl, pre, e1, rfl⟩
    rw [List.append_nil] at e1
    rw [← e1]
    exact q

/-! ### typed loops, typed comprehensions -/
/-- a comprehension with a test, over things of one type, that changes no cell -/
theorem comp_filtT {α : Type} (xs : List α) (g : α → D) (p : α → Bool) (f : α → D) {i : Nat} {mi : M (List D)} {tA : M Bool} {m : M D} {sl : SL} {st : List Cell} {P : List D → List Cell → Prop} {E : Ex → List Cell → Prop} (hl : xs.length ≤ 1000000) (hno : noOwn sl [i] = true)
    (h : Ge mi sl st (fun items st' => items = xs.map g ∧ st' = st) E) (ht : ∀ x ∈ xs, Ge tA ((wipeG sl [i]).set i (some (.val (g x)))) st (fun b st' => b = p x ∧ st' = st) fun _ _ => False)
    (hs : ∀ x ∈ xs, p x = true → Ge m ((wipeG sl [i]).set i (some (.val (g x)))) st (fun y st' => y = f x ∧ st' = st) fun _ _ => False)
    (q : P ((xs.filter p).map f) st) : Ge (compM [i] mi (setD i) tA m) sl st P E := by
  refine ge_comp (I := fun items acc st' => st' = st ∧ ∃ pre rest, xs = pre ++ rest ∧ items = rest.map g ∧ acc = (pre.filter p).map f) rfl hno (h.mono (fun items st' z => ⟨z.2, [], xs, rfl, z.1, rfl⟩) fun _ _ z => z) ?_ ?_
  · rintro d ds acc st' ⟨rfl, pre, rest, e1, e2, rfl⟩
    cases rest with
    | nil => cases e2
    | cons x rest =>
      obtain ⟨rfl, rfl⟩ := List.cons.inj e2
      have hx : x ∈ xs := by rw [e1]; simp
      refine (ht x hx).mono (fun b st2 z => ?_) fun _ _ z => z
      obtain ⟨rfl, rfl⟩ := z
      refine ⟨fun hb => (hs x hx hb).mono (fun y st3 z => ?_) fun _ _ z => z, fun hb => ?_⟩
      · obtain ⟨rfl, rfl⟩ := z
        have l1 := List.length_filter_le p pre
        have l2 := congrArg List.length e1
        rw [List.length_append] at l2
        refine ⟨by rw [List.length_map, sizeLine_eq]; omega, rfl, pre ++ [x], rest, by rw [e1]; simp, rfl, ?_⟩
        rw [List.filter_append, List.map_append, List.filter_cons, if_pos hb]
        rfl
      · refine ⟨rfl, pre ++ [x], rest, by rw [e1]; simp, rfl, ?_⟩
        rw [List.filter_append, List.map_append, List.filter_cons, if_neg (by rw [hb]; exact Bool.false_ne_true)]
        simp
  · rintro acc st' ⟨rfl, pre, rest, e1, e2, rfl⟩
    cases rest with
    | nil =>
      rw [List.append_nil] at e1
      rw [← e1]
      exact q
    | cons x rest => cases e2
theorem comp_mapT {α : Type} (xs : List α) (g f : α → D) {i : Nat} {mi : M (List D)} {m : M D} {sl : SL} {st : List Cell} {P : List D → List Cell → Prop} {E : Ex → List Cell → Prop} (hl : xs.length ≤ 1000000) (hno : noOwn sl [i] = true)
    (h : Ge mi sl st (fun items st' => items = xs.map g ∧ st' = st) E) (hs : ∀ x ∈ xs, Ge m ((wipeG sl [i]).set i (some (.val (g x)))) st (fun y st' => y = f x ∧ st' = st) fun _ _ => False)
    (q : P (xs.map f) st) : Ge (compM [i] mi (setD i) (pureM true) m) sl st P E :=
  comp_filtT xs g (fun _ => true) f hl hno h (fun x hx => ge_pure ⟨rfl, rfl⟩) (fun x hx _ => hs x hx) (by rw [List.filter_eq_self.mpr fun _ _ => rfl]; exact q)
theorem gs_mono {m : MS} {sl : SL} {st : List Cell} {N N' : En} (h : Gs m sl st N) (hn : ∀ sl st, N.nx sl st → N'.nx sl st) (hr : ∀ d st, N.rt d st → N'.rt d st) (hb : ∀ sl st, N.bk sl st → N'.bk sl st) (hc : ∀ sl st, N.ct sl st → N'.ct sl st) (hx : ∀ x sl st, N.xx x sl st → N'.xx x sl st) : Gs m sl st N' := by
  refine ⟨?_⟩
  replace h := h.is
  unfold GsD at h ⊢
  cases e : m ⟨sl, st⟩ with
  | next s => rw [e] at h; exact hn _ _ h
  | ret d s => rw [e] at h; exact hr _ _ h
  | brk s => rw [e] at h; exact hb _ _ h
  | cont s => rw [e] at h; exact hc _ _ h
  | exc x s => rw [e] at h; exact hx _ _ _ h
  | bad => rw [e] at h; exact h
/-- a for over things of one type: what stands behind, what is still to come -/
theorem gs_forT {α : Type} (xs : List α) (g : α → D) {mi : M (List D)} {gt : D → MS} {b : MS} {sl : SL} {st : List Cell} {N : En} (I : List α → List α → SL → List Cell → Prop) (h : Ge mi sl st (fun items st' => items = xs.map g ∧ I [] xs sl st') fun x st' => N.xx x sl st')
    (hs : ∀ pre x rest sl st, xs = pre ++ x :: rest → I pre (x :: rest) sl st → Gs (gt (g x)) sl st { nx := fun sl' st' => Gs b sl' st' { nx := I (pre ++ [x]) rest, rt := N.rt, bk := N.nx, ct := I (pre ++ [x]) rest, xx := N.xx }, rt := fun _ _ => False }) (hd : ∀ sl st, I xs [] sl st → N.nx sl st) : Gs (forS mi gt b) sl st N := by
  refine gs_for (I := fun items sl st => ∃ pre rest, xs = pre ++ rest ∧ items = rest.map g ∧ I pre rest sl st) (h.mono (fun items st' z => ⟨[], xs, rfl, z.1, z.2⟩) fun _ _ z => z) ?_ ?_
  · rintro d ds sl st ⟨pre, rest, e1, e2, hi⟩
    cases rest with
    | nil => cases e2
    | cons x rest =>
      obtain ⟨rfl, rfl⟩ := List.cons.inj e2
      have e3 : xs = (pre ++ [x]) ++ rest := by rw [e1]; simp
      refine gs_mono (hs pre x rest sl st e1 hi) (fun sl' st' z => ?_) (fun _ _ z => z) (fun _ _ z => z) (fun _ _ z => z) (fun _ _ _ z => z)
      exact gs_mono z (fun _ _ z => ⟨_, _, e3, rfl, z⟩) (fun _ _ z => z) (fun _ _ z => z) (fun _ _ z => ⟨_, _, e3, rfl, z⟩) (fun _ _ _ z => z)
  · rintro sl st ⟨pre, rest, e1, e2, hi⟩
    cases rest with
    | nil =>
      rw [List.append_nil] at e1
      subst e1
      exact hd sl st hi
    | cons x rest => cases e2
theorem strOk_asc {w : Str} (h : Asc w) : PyData.strOk w = true := by
  unfold PyData.strOk
  rw [← Array.all_toList, List.all_eq_true]
  intro c hc
  have := h c hc
  exact decide_eq_true (by omega)
theorem okP_asc {w : Str} (h : Asc w) : okP (.str w) := by simp only [okP]; exact strOk_asc h
theorem okPL_sg {cs : List Nat} (h : ∀ c ∈ cs, c < 128) : okPL (cs.map sg) := okPL_all.mpr fun d hd => by
  obtain ⟨c, hc, rfl⟩ := List.mem_map.mp hd
  exact okP_asc (Asc.one (h c hc))
theorem depL_0 {ds : List D} (h : ∀ d ∈ ds, dep d = 0) : depL ds = 0 := by
  have : depL ds ≤ 0 := depL_le.mpr fun d hd => by rw [h d hd]; exact Nat.le_refl 0
  omega
theorem pl_sg {cs : List Nat} (h : ∀ c ∈ cs, c < 128) : Pl (.lst (cs.map sg)) := ⟨by simp only [okP]; exact okPL_sg h, by
  simp only [dep]
  rw [depL_0 fun d hd => by obtain ⟨c, _, rfl⟩ := List.mem_map.mp hd; rfl]
  decide⟩
end Mir
/-! M24: walks that look at what is walked in each turn: lists that stand in cells. -/
namespace Mir
open PySem PySem.Spec PyProof.Rows L2
/-- what is walked: at most so many turns; the item with a number: not known, none more, this one -/
structure Wk where
  n : Nat
  at' : List Cell → Nat → Option (Option D)
def listAt (xs : List D) (i : Nat) : Option (Option D) := match xs[i]? with
  | some d => some (some d)
  | none => if i = xs.length then some none else none
def listW (xs : List D) : Wk := ⟨xs.length + 1, fun _ => listAt xs⟩
def refAt (n : Nat) (st : List Cell) (i : Nat) : Option (Option D) := match st[n]? with
  | some (.lst ys) => some ys[i]?
  | _ => none
def refW (n k : Nat) : Wk := ⟨k + 1, refAt n⟩
def wkL (m : M D) : M Wk := bindM m fun x s => match x with
  | .lst xs => .ok (listW xs) s
  | .ref n => (match s.st[n]? with
    | some (.lst ys) => .ok (refW n ys.length) s
    | _ => .bad)
  | _ => .bad
def itemsW (mi : M (List D)) : M Wk := bindM mi fun xs => pureM (listW xs)
def loopW (g : D → MS) (body : MS) (w : Wk) : Nat → Nat → MS
  | 0, _, _ => .bad
  | f + 1, i, s => match w.at' s.st i with
    | some (some d) => (match g d s with
      | .next s1 => (match body s1 with
        | .next s2 => loopW g body w f (i + 1) s2
        | .cont s2 => loopW g body w f (i + 1) s2
        | .brk s2 => .next s2
        | r => r)
      | _ => .bad)
    | some none => .next s
    | none => .bad
def forW (mw : M Wk) (g : D → MS) (body : MS) : MS := bindS mw fun w => loopW g body w w.n 0
def compLW (vs : List Nat) (g : D → MS) (tt : M Bool) (te : M D) (w : Wk) : Nat → Nat → List D → S → Option (List D × S)
  | 0, _, _, _ => none
  | f + 1, i, acc, s => match w.at' s.st i with
    | some (some d) => (match g d { s with sl := wipeG s.sl vs } with
      | .next s1 => (match tt s1 with
        | .ok true s2 => (match te s2 with
          | .ok y s3 => (match decide (acc.length < sizeLine) with
            | true => compLW vs g tt te w f (i + 1) (acc ++ [y]) s3
            | false => none)
          | _ => none)
        | .ok false s2 => compLW vs g tt te w f (i + 1) acc s2
        | _ => none)
      | _ => none)
    | some none => some (acc, s)
    | none => none
def compWM (vs : List Nat) (mw : M Wk) (g : D → MS) (tt : M Bool) (te : M D) : M (List D) := bindM mw fun w s => match noOwn s.sl vs with
  | true => (match compLW vs g tt te w w.n 0 [] s with
    | some r => .ok r.1 { r.2 with sl := restG s.sl r.2.sl vs }
    | none => .bad)
  | false => .bad
section
variable (K : PySem.W.Frag) (mg : Str → Option Value) (W : WX)
structure WkOk (J : It) (c : Cfg) (w : Wk) : Prop where
  go : ∀ (c' : Cfg) (i : Nat) (d : D), Rep K mg c' → Ext c c' → w.at' c'.h.st i = some (some d) → J.go i c'.h.H
  stop : ∀ (c' : Cfg) (i : Nat), Rep K mg c' → Ext c c' → w.at' c'.h.st i = some none → J.stop i c'.h.H
  yld : ∀ (c' : Cfg) (i : Nat) (x : V) (H' : Hp) (d : D), Rep K mg c' → Ext c c' → w.at' c'.h.st i = some (some d) → J.yld i c'.h.H x H' → ∃ c2 : Cfg, c2.h.H = H' ∧ c2.σ = c'.σ ∧ c2.s = c'.s ∧ Rep K mg c2 ∧ Ext c' c2 ∧ RepV K mg c2.h.ι c2.h.F d x
def TWm (m : M Wk) : TI := fun σ H R => ∃ c : Cfg, c.σ = σ ∧ c.h.H = H ∧ Rep K mg c ∧ Post K mg W c (fun w c' => ∀ J, WkOk K mg J c' w → R J c'.h.H) (m c.s)
end
section
variable {K : PySem.W.Frag} {mg : Str → Option Value} {W : WX} {X : Cx} {c c1 : Cfg} {D0 D1 : Ends} {α : Type}
variable {tg e a b : Expr} {es : List Expr} {m m' : MS} {ma : M D} {ms : M (List D)} {mi : M (List D)} {mw : M Wk} {pos p : Pos}
theorem listAt_some {xs : List D} {i : Nat} {d : D} (h : listAt xs i = some (some d)) : xs[i]? = some d := by
  unfold listAt at h
  split at h
  · rename_i y hy
    cases h
    exact hy
  · split at h <;> cases h
theorem listAt_none {xs : List D} {i : Nat} (h : listAt xs i = some none) : i = xs.length := by
  unfold listAt at h
  split at h
  · cases h
  · split at h
    · assumption
    · cases h
theorem wkok_of {J : It} {items : List D} (h : ItOk K mg J c items) : WkOk K mg J c (listW items) := by
  refine ⟨fun c' i d r x e => ?_, fun c' i r x e => ?_, fun c' i x H' d r y e z => ?_⟩
  · exact h.go c' i r x (List.getElem?_eq_some_iff.mp (listAt_some e)).1
  · have hi := listAt_none e
    subst hi
    exact h.stop c' r x
  · exact h.yld c' i x H' d r y (listAt_some e) z
theorem refAt_is {n i : Nat} {st : List Cell} {o : Option D} (h : refAt n st i = some o) : ∃ ys, st[n]? = some (.lst ys) ∧ ys[i]? = o := by
  unfold refAt at h
  split at h
  · rename_i ys hy
    cases h
    exact ⟨ys, hy, rfl⟩
  · cases h
theorem wkok_ref {n k : Nat} {a : Addr} (hn : c.h.ι[n]? = some a) : WkOk K mg (Itl K a) c (refW n k) := by
  have at' : ∀ {c' : Cfg}, Ext c c' → c'.h.ι[n]? = some a := fun {c'} x => by
    obtain ⟨r, e⟩ := x.pre
    rw [e]
    exact ix_pre hn
  refine ⟨fun c' i d r x e => ?_, fun c' i r x e => ?_, fun c' i v H' d r x e y => ?_⟩
  · obtain ⟨ys, h1, h2⟩ := refAt_is e
    obtain ⟨_, vs, h3, l⟩ := r.rc.cell n a _ (at' x) h1
    obtain ⟨v, h4, _⟩ := RepL.get l h2
    exact ⟨vs, v, .inl (.inl h3), h4⟩
  · obtain ⟨ys, h1, h2⟩ := refAt_is e
    obtain ⟨_, vs, h3, l⟩ := r.rc.cell n a _ (at' x) h1
    exact ⟨vs, .inl (.inl h3), by rw [← RepL.length l]; exact List.getElem?_eq_none_iff.mp h2⟩
  · obtain ⟨ys, h1, h2⟩ := refAt_is e
    obtain ⟨_, vs, h3, l⟩ := r.rc.cell n a _ (at' x) h1
    obtain ⟨w, h4, h5⟩ := RepL.get l h2
    obtain ⟨rfl, y⟩ := y
    have h6 := y vs (.inl (.inl h3))
    rw [h4] at h6
    cases h6
    exact ⟨c', rfl, rfl, rfl, r, Ext0.refl, h5⟩
theorem mw_items (h : PI X tg e (TIm K mg W mi)) : PI X tg e (TWm K mg W (itemsW mi)) := by
  refine PI.imp h fun σ H R h => ?_
  obtain ⟨c, rfl, rfl, rc, p⟩ := h
  exact ⟨c, rfl, rfl, rc, (Post.bind (m := mi c.s) p).mono fun x c1 e1 r1 x1 p1 J hJ => p1.now r1 J (wkok_of hJ)⟩
theorem mw_list (h : PE X e (T X.K mg W ma)) : PI X tg e (TWm X.K mg W (wkL ma)) := by
  refine PI.imp (pi_list h) fun σ H R h => ?_
  obtain ⟨c, rfl, rfl, rc, p⟩ := h
  refine ⟨c, rfl, rfl, rc, (Post.bind (m := ma c.s) p).mono fun x c1 e1 r1 x1 p1 v hv => ?_⟩
  cases x with
  | lst xs =>
    obtain ⟨a, vs, rfl, q, l⟩ := hv
    exact ⟨a, rfl, ⟨vs, sqL_mono r1.rc.fr q⟩, p1.now r1 _ (wkok_of (itok_list q l))⟩
  | ref n =>
    obtain ⟨a, rfl, hn⟩ := hv
    replace p1 : Post X.K mg W c1 (fun w c' => ∀ J, WkOk X.K mg J c' w → R J c'.h.H) (match c1.h.st[n]? with
      | some (.lst ys) => .ok (refW n ys.length) c1.s
      | _ => .bad) := p1
    cases hc : c1.h.st[n]? with
    | none =>
      rw [hc] at p1
      exact p1.elim
    | some y =>
      rw [hc] at p1
      cases y with
      | lst ys =>
        obtain ⟨_, vs, h3, l⟩ := r1.rc.cell n a _ hn hc
        exact ⟨a, rfl, ⟨vs, .inl (.inl h3)⟩, p1.now r1 _ (wkok_ref hn)⟩
      | _ => exact p1.elim
  | _ => exact p1.elim
theorem ms_forW {body : List Stmt} {g : D → MS} (hp : PassesOwn (model X.prog X.w) X.A X.env X.xe) (hc : X.calm = true) (hi : PI X tg e (TWm K mg W mw)) (hg : PG X tg (TGt K mg g)) (hb : PSs X body (TSt K mg W m))
    (hs : ∀ x, foldedSetIterable e X.env x = pure x := by intro _; rfl) : PS X (.For tg e body [] pos) (TSt K mg W (forW mw g m)) := by
  refine PS.imp (ps_for hp hc hi hg hb hs) fun D0 σ H h => ?_
  obtain ⟨c, rfl, rfl, rc, q⟩ := h
  refine ⟨c, rfl, rfl, rc, (PostS.bind (m := mw) q).mono fun w c1 e1 r1 x1 q1 J hJ => ?_⟩
  refine ⟨fun i n σ H => ∃ c2 : Cfg, c2.σ = σ ∧ c2.h.H = H ∧ Rep K mg c2 ∧ Ext c1 c2 ∧ PostS K mg W D0 c2 (loopW g m w n i c2.s), ⟨w.n, c1, e1, rfl, r1, Ext0.refl, q1⟩, fun i n σ2 H2 hw => ?_⟩
  obtain ⟨c2, rfl, rfl, r2, x2, q2⟩ := hw
  cases n with
  | zero => exact q2.elim
  | succ n =>
    simp only [loopW] at q2
    have es : c2.s.st = c2.h.st := rfl
    rw [es] at q2
    cases ea : w.at' c2.h.st i with
    | none =>
      rw [ea] at q2
      exact q2.elim
    | some o =>
      rw [ea] at q2
      cases o with
      | none => exact .inl ⟨hJ.stop c2 i r2 x2 ea, q2 c2 rfl r2 Ext0.refl⟩
      | some d =>
        refine .inr ⟨hJ.go c2 i d r2 x2 ea, fun σ' H' => ∃ c3 : Cfg, c3.σ = σ' ∧ c3.h.H = H' ∧ Rep K mg c3 ∧ Ext c1 c3 ∧ PostS K mg W D0 c3 (loopW g m w n (i + 1) c3.s), fun σ' H' hN => ?_, fun x H' hy => ?_⟩
        · exact ⟨n, by omega, hN⟩
        · obtain ⟨c3, rfl, e3, e4, r3, x3, hv⟩ := hJ.yld c2 i x H' d r2 x2 ea hy
          have q3 := PostS.shift q2 x3
          rw [← e4] at q3
          refine ⟨c3, d, e3, rfl, r3, hv, ?_⟩
          dsimp only at q3
          cases eg : g d c3.s with
          | next s1 =>
            rw [eg] at q3
            refine fun c4 e5 r4 x4 => ⟨c4, rfl, rfl, r4, ?_⟩
            have q4 := PostS.shift q3 x4
            rw [← e5] at q4
            simp only at q4
            have x14 : Ext c1 c4 := (x2.trans x3).trans x4
            cases eb : m c4.s with
            | next s2 =>
              rw [eb] at q4
              intro c5 e6 r5 x5
              refine ⟨c5, rfl, rfl, r5, x14.trans x5, ?_⟩
              rw [e6]
              exact PostS.shift q4 x5
            | cont s2 =>
              rw [eb] at q4
              intro c5 e6 r5 x5
              refine ⟨c5, rfl, rfl, r5, x14.trans x5, ?_⟩
              rw [e6]
              exact PostS.shift q4 x5
            | brk s2 =>
              rw [eb] at q4
              exact q4
            | ret d s2 =>
              rw [eb] at q4
              exact q4
            | exc z s2 =>
              rw [eb] at q4
              exact q4
            | bad =>
              rw [eb] at q4
              exact q4
          | _ =>
            rw [eg] at q3
            exact q3.elim
variable {elt iter : Expr} {ifs : List Expr} {scope : Scope} {own : List (Str × Nat)} {g : D → MS} {tt : M Bool} {te : M D}
theorem compW_core {vs : List Nat} {σ : L2.St} {H : Hp} {Q : VK} (h : TFl K mg W (compWM vs mw g tt te) σ H Q) : tLc (TWm K mg W mw) (TGw K mg vs g) (TB K mg W0 tt) (T K mg W0 te) vs σ H Q := by
  obtain ⟨c, rfl, rfl, rc, q⟩ := h
  refine ⟨c, rfl, rfl, rc, (Post.bind (m := mw c.s) q).mono fun w c1 e1 r1 x1 q1 J hJ p hp => ?_⟩
  cases hno : noOwn c1.s.sl vs with
  | false =>
    rw [hno] at q1
    exact q1.elim
  | true =>
    rw [hno] at q1
    have pend : ∃ acc s', compLW vs g tt te w w.n 0 [] c1.s = some (acc, s') ∧ ∀ c' : Cfg, c'.s = { s' with sl := restG c1.s.sl s'.sl vs } → c'.σ = c1.σ → Rep K mg c' → Ext c1 c' → ∀ (p : Addr) (ws : List V), Fl c' p ws → c.h.H p = none → RepL K mg c'.h.ι c'.h.F acc ws → Q (.ref p) c'.h.H := by
      cases e : compLW vs g tt te w w.n 0 [] c1.s with
      | none =>
        rw [e] at q1
        exact q1.elim
      | some r =>
        rw [e] at q1
        exact ⟨r.1, r.2, rfl, q1⟩
    obtain ⟨accE, sE, hE, qE⟩ := pend
    have hF1 := r1.rc.fnone hp
    have hM1 : ¬ Mu c1 p := fun z => by
      rcases z with z | ⟨i, y, z1, z2⟩
      · exact r1.rc.tr p z hp
      · obtain ⟨a, h1, h2, h3, h4, h5⟩ := r1.own i y z1
        rw [h1] at z2
        cases z2
        exact h4 hp
    have hσ1 : c1.σ = c.σ := e1
    refine ⟨fun i n H => ∃ (cw : Cfg) (acc : List D) (ws : List V) (s : S), cw.h.H = H ∧ cw.σ = wipeG c.σ vs ∧ cw.s = { s with sl := wipeG s.sl vs } ∧ s.sl.length = c1.sl.length ∧ Rep K mg cw ∧ Ext c1 cw ∧ Fl cw p ws ∧ RepL K mg cw.h.ι cw.h.F acc ws ∧ compLW vs g tt te w n i acc s = some (accE, sE),
      ⟨w.n, (c1.wiped vs).fl p (.lst []), [], [], c1.s, rfl, ?_, rfl, rfl, (r1.wiped).fl hF1 ?_, (Ext.wiped).fl hp, ⟨upd_same, hF1, ?_⟩, rfl, hE⟩, fun i n H hw => ?_⟩
    · show wipeG c1.σ vs = wipeG c.σ vs
      rw [hσ1]
    · exact fun z => hM1 (by
        rcases z with z | ⟨i, y, z1, z2⟩
        · exact .inl z
        · exact .inr ⟨i, y, (wipeG_in z1).2, (wipeG_in z2).2⟩)
    · exact fun z => hM1 (by
        rcases z with z | ⟨i, y, z1, z2⟩
        · exact .inl z
        · exact .inr ⟨i, y, (wipeG_in z1).2, (wipeG_in z2).2⟩)
    · obtain ⟨cw, acc, ws, s, rfl, e2, e3, e3l, rw', xw, fw, lw, hC⟩ := hw
      cases n with
      | zero => cases hC
      | succ n =>
        simp only [compLW] at hC
        have est : s.st = cw.h.st := (congrArg S.st e3).symm
        rw [est] at hC
        cases ea : w.at' cw.h.st i with
        | none =>
          rw [ea] at hC
          cases hC
        | some o =>
          rw [ea] at hC
          cases o with
          | none =>
            refine .inl ⟨hJ.stop cw i rw' xw ea, ?_⟩
            cases hC
            have hsl : cw.sl = wipeG sE.sl vs := congrArg S.sl e3
            have hst : cw.h.st = sE.st := congrArg S.st e3
            obtain ⟨rL, mL⟩ := Rep.left (c := cw) (old := c1) (vs := vs) (sl := sE.sl) r1 rw' xw (by rw [e2, hσ1]) hsl e3l hno
            refine qE (cw.left c1 vs sE.sl) ?_ rfl rL ⟨xw.pre, xw.fz, xw.fr, xw.dom, xw.nf, fun a h => xw.ow a (mL a h)⟩ p ws ⟨fw.H, fw.F, fun z => fw.M (mL p z)⟩ (x1.dom p hp) lw
            show Mir.S.mk (restG c1.sl sE.sl vs) cw.h.st = _
            rw [hst]
            rfl
          | some d =>
            refine .inr ⟨hJ.go cw i d rw' xw ea, fun H' => ∃ (cw : Cfg) (acc : List D) (ws : List V) (s : S), cw.h.H = H' ∧ cw.σ = wipeG c.σ vs ∧ cw.s = { s with sl := wipeG s.sl vs } ∧ s.sl.length = c1.sl.length ∧ Rep K mg cw ∧ Ext c1 cw ∧ Fl cw p ws ∧ RepL K mg cw.h.ι cw.h.F acc ws ∧ compLW vs g tt te w n (i + 1) acc s = some (accE, sE), fun H' hN => ?_, fun x H' hy => ?_⟩
            · exact ⟨n, by omega, hN⟩
            · obtain ⟨c3, rfl, e4, e5, r3, x3, hv⟩ := hJ.yld cw i x H' d rw' xw ea hy
              dsimp only at hC
              have f3 := fw.ext x3
              have l3 := x3.repL lw
              have x13 := xw.trans x3
              have e6 : ({ s with sl := wipeG s.sl vs } : S) = c3.s := by rw [e5, e3]
              have e6' : (⟨wipeG s.sl vs, cw.h.st⟩ : S) = c3.s := by rw [← est]; exact e6
              first | rw [e6'] at hC | rw [e6] at hC
              have e7 : c3.σ = wipe c.σ vs := by rw [e4, e2, wipe_eq]
              refine ⟨c3, d, e7, rfl, r3, hv, ?_⟩
              cases eg : g d c3.s with
              | next s1 =>
                rw [eg] at hC
                simp only at hC
                refine fun c4 e8 r4 x4 hw4 => ⟨?_, c4, rfl, rfl, r4, ?_⟩
                · rw [wipe_eq, wipe_eq, hw4, e7, wipe_eq, wipeG_idem]
                rw [← e8] at hC
                have f4 := f3.ext x4
                have l4 := x4.repL l3
                have x14 := x13.trans x4
                cases et : tt c4.s with
                | ok b s2 =>
                  rw [et] at hC
                  intro c5 e9 e10 r5 x5
                  have f5 := f4.ext x5
                  have l5 := x5.repL l4
                  have x15 := x14.trans x5
                  have wσ : wipeG c4.σ vs = wipeG c.σ vs := by rw [hw4, e7, wipe_eq, wipeG_idem]
                  have len4 : c4.σ.length = c1.sl.length := by
                    have h := congrArg List.length wσ
                    rw [wipeG_len, wipeG_len] at h
                    rw [h, ← hσ1]
                    exact r1.sln.symm
                  cases b with
                  | false =>
                    simp only at hC
                    refine iteF ⟨c5.wiped vs, acc, ws, c5.s, rfl, ?_, rfl, ?_, r5.wiped, x15.trans Ext.wiped, f5.ext Ext.wiped, (Ext.wiped (c := c5) (vs := vs)).repL l5, ?_⟩
                    · show wipeG c5.σ vs = wipeG c.σ vs
                      rw [e10, wσ]
                    · show c5.sl.length = c1.sl.length
                      rw [r5.sln, e10, len4]
                    · rw [e9]
                      exact hC
                  | true =>
                    simp only at hC
                    refine iteT ⟨c5, e10, rfl, r5, ?_⟩
                    rw [e9]
                    cases ey : te s2 with
                    | ok y s3 =>
                      rw [ey] at hC
                      simp only at hC
                      intro c6 e11 e12 r6 x6 v hv6
                      have f6 := f5.ext x6
                      have l6 := x6.repL l5
                      have x16 := x15.trans x6
                      by_cases hsz : acc.length < sizeLine
                      · rw [decide_eq_true hsz] at hC
                        simp only at hC
                        refine ⟨ws, f6.H, by rw [← RepL.length l6]; exact hsz, (c6.wiped vs).fl p (.lst (ws ++ [v])), acc ++ [y], ws ++ [v], c6.s, rfl, ?_, rfl, ?_, (r6.wiped).fl f6.F (f6.ext Ext.wiped).M, Ext.fl (x16.trans Ext.wiped) hp, (f6.ext Ext.wiped).fl, l6.append (.one hv6), ?_⟩
                        · show wipeG c6.σ vs = wipeG c.σ vs
                          rw [e12, e10, wσ]
                        · show c6.sl.length = c1.sl.length
                          rw [r6.sln, e12, e10, len4]
                        · rw [e11]
                          exact hC
                      · rw [decide_eq_false hsz] at hC
                        cases hC
                    | exc z s3 =>
                      rw [ey] at hC
                      cases hC
                    | bad =>
                      rw [ey] at hC
                      cases hC
                | exc z s2 =>
                  rw [et] at hC
                  cases hC
                | bad =>
                  rw [et] at hC
                  cases hC
              | _ =>
                rw [eg] at hC
                cases hC
theorem me_lcW (hc : X.calm = true) (hN : X.N.Nodup) (hi : PI X tg iter (TWm X.K mg W mw)) (ok : BlkOk X.N X.env.scope scope own)
    (hg : ∀ (s : Shared) (H : Hp) (C : Addr) (cl : List (Str × Addr)) (fp : List Addr), PG (X.blk s H scope (compEnvC scope cl C X.env) fp) tg (TGw X.K mg (own.map (·.2)) g)) (ht : ∀ (s : Shared) (H : Hp) (C : Addr) (cl : List (Str × Addr)) (fp : List Addr), PTs (X.blk s H scope (compEnvC scope cl C X.env) fp) ifs (TB X.K mg W0 tt))
    (he : ∀ (s : Shared) (H : Hp) (C : Addr) (cl : List (Str × Addr)) (fp : List Addr), PE (X.blk s H scope (compEnvC scope cl C X.env) fp) elt (T X.K mg W0 te)) (hs : ∀ x, foldedSetIterable iter X.env x = pure x := by intro _; rfl) :
    PE X (.ListComp elt [⟨tg, iter, ifs, 0⟩] scope pos) (TFl X.K mg W (compWM (own.map (·.2)) mw g tt te)) :=
  PE.imp (pe_lc hc hN hi ok hg ht he hs) fun σ H Q h => compW_core h
theorem ms_setLcW {i : Nat} {y : Str} {py : Pos} {spos : Pos} (hc : X.calm = true) (hN : X.N.Nodup) (hy : X.N[i]? = some y) (hyl : X.env.scope.names.lookup y = some .local)
    (hsw : swapsWith (.ListComp elt [⟨tg, iter, ifs, 0⟩] scope pos) (some (.Name y py)) spos.line X.env = pure true) (hi : PI X tg iter (TWm X.K mg W mw)) (ok : BlkOk X.N X.env.scope scope own)
    (hg : ∀ (s : Shared) (H : Hp) (C : Addr) (cl : List (Str × Addr)) (fp : List Addr), PG (X.blk s H scope (compEnvC scope cl C X.env) fp) tg (TGw X.K mg (own.map (·.2)) g)) (ht : ∀ (s : Shared) (H : Hp) (C : Addr) (cl : List (Str × Addr)) (fp : List Addr), PTs (X.blk s H scope (compEnvC scope cl C X.env) fp) ifs (TB X.K mg W0 tt))
    (he : ∀ (s : Shared) (H : Hp) (C : Addr) (cl : List (Str × Addr)) (fp : List Addr), PE (X.blk s H scope (compEnvC scope cl C X.env) fp) elt (T X.K mg W0 te)) (hs : ∀ x, foldedSetIterable iter X.env x = pure x := by intro _; rfl) :
    PS X (.Assign [.Name y py] (.ListComp elt [⟨tg, iter, ifs, 0⟩] scope pos) spos) (TSt X.K mg W (setS (frzM (compWM (own.map (·.2)) mw g tt te)) (setD i))) := by
  refine PS.imp (ps_setLc hc hN hy hyl hsw hi ok hg ht he hs) fun D0 σ H h => ?_
  obtain ⟨c, rfl, rfl, rc, q⟩ := h
  refine compW_core (Q := fun x H1 => gName i x c.σ H1 D0.nx) (frz_core ⟨c, rfl, rfl, rc, (PostS.bind (m := frzM (compWM (own.map (·.2)) mw g tt te)) q).mono fun d c1 e1 r1 x1 p1 v hv => ?_⟩)
  have q := p1 (c1.put i d v) rfl (r1.put hv) Ext.put
  rw [← e1]
  exact q
theorem ms_setLcWB {i : Nat} {y : Str} {py : Pos} {spos : Pos} (hc : X.calm = true) (hN : X.N.Nodup) (hy : X.N[i]? = some y) (hyl : X.env.scope.names.lookup y = some .local)
    (hsw : swapsWith (.ListComp elt [⟨tg, iter, ifs, 0⟩] scope pos) (some (.Name y py)) spos.line X.env = pure true) (hi : PI X tg iter (TWm X.K mg W mw)) (ok : BlkOk X.N X.env.scope scope own)
    (hg : ∀ (s : Shared) (H : Hp) (C : Addr) (cl : List (Str × Addr)) (fp : List Addr), PG (X.blk s H scope (compEnvC scope cl C X.env) fp) tg (TGw X.K mg (own.map (·.2)) g)) (ht : ∀ (s : Shared) (H : Hp) (C : Addr) (cl : List (Str × Addr)) (fp : List Addr), PTs (X.blk s H scope (compEnvC scope cl C X.env) fp) ifs (TB X.K mg W0 tt))
    (he : ∀ (s : Shared) (H : Hp) (C : Addr) (cl : List (Str × Addr)) (fp : List Addr), PE (X.blk s H scope (compEnvC scope cl C X.env) fp) elt (T X.K mg W0 te)) (hs : ∀ x, foldedSetIterable iter X.env x = pure x := by intro _; rfl) :
    PS X (.Assign [.Name y py] (.ListComp elt [⟨tg, iter, ifs, 0⟩] scope pos) spos) (TSt X.K mg W (setS (boxM (compWM (own.map (·.2)) mw g tt te)) (setD i))) := by
  refine PS.imp (ps_setLc hc hN hy hyl hsw hi ok hg ht he hs) fun D0 σ H h => ?_
  obtain ⟨c, rfl, rfl, rc, q⟩ := h
  refine compW_core (Q := fun x H1 => gName i x c.σ H1 D0.nx) (box_core ⟨c, rfl, rfl, rc, (PostS.bind (m := boxM (compWM (own.map (·.2)) mw g tt te)) q).mono fun d c1 e1 r1 x1 p1 v hv => ?_⟩)
  have q := p1 (c1.put i d v) rfl (r1.put hv) Ext.put
  rw [← e1]
  exact q
end
/-! ### the plain side -/
section
variable {α : Type} {sl : SL} {st : List Cell} {E : Ex → List Cell → Prop} {m : M D} {mw : M Wk}
theorem ge_wkL {P : Wk → List Cell → Prop} (h : Ge m sl st (fun x st1 => (∃ xs, x = .lst xs ∧ P (listW xs) st1) ∨ ∃ n ys, x = .ref n ∧ st1[n]? = some (.lst ys) ∧ P (refW n ys.length) st1) E) : Ge (wkL m) sl st P E := by
  refine ge_bind (h.mono (fun x st1 h1 => ?_) fun _ _ z => z)
  refine ⟨?_⟩
  unfold GeD
  rcases h1 with ⟨xs, rfl, p⟩ | ⟨n, ys, rfl, e, p⟩
  · exact ⟨rfl, p⟩
  · dsimp only
    rw [e]
    exact ⟨rfl, p⟩
theorem ge_itemsW {mi : M (List D)} {P : Wk → List Cell → Prop} (h : Ge mi sl st (fun xs st1 => P (listW xs) st1) E) : Ge (itemsW mi) sl st P E := ge_bind (h.mono (fun _ _ z => ge_pure z) fun _ _ z => z)
theorem q_wkR {n : Nat} {ys : List D} {P : Wk → Prop} (e : st[n]? = some (.lst ys)) (q : P (refW n ys.length)) : (∃ xs, D.ref n = .lst xs ∧ P (listW xs)) ∨ ∃ n' ys, D.ref n = .ref n' ∧ st[n']? = some (.lst ys) ∧ P (refW n' ys.length) := .inr ⟨n, ys, rfl, e, q⟩
theorem q_wkL {xs : List D} {P : Wk → Prop} (q : P (listW xs)) : (∃ ys, D.lst xs = .lst ys ∧ P (listW ys)) ∨ ∃ n' ys, D.lst xs = .ref n' ∧ st[n']? = some (.lst ys) ∧ P (refW n' ys.length) := .inl ⟨xs, rfl, q⟩
/-- w walks xs wherever A holds -/
structure Walks (w : Wk) (xs : List D) (A : List Cell → Prop) : Prop where
  n : w.n = xs.length + 1
  at' : ∀ st i, A st → i ≤ xs.length → w.at' st i = some xs[i]?
theorem walks_list (xs : List D) (A : List Cell → Prop) : Walks (listW xs) xs A := by
  refine ⟨rfl, fun st i _ h => ?_⟩
  show listAt xs i = _
  unfold listAt
  cases e : xs[i]? with
  | some d => rfl
  | none =>
    have := List.getElem?_eq_none_iff.mp e
    dsimp only
    rw [if_pos (by omega)]
theorem walks_ref (xs : List D) (n k : Nat) (hk : k = xs.length) (A : List Cell → Prop) (h : ∀ st, A st → st[n]? = some (.lst xs)) : Walks (refW n k) xs A := by
  refine ⟨by rw [hk]; rfl, fun st i a _ => ?_⟩
  show refAt n st i = _
  unfold refAt
  rw [h st a]
theorem gs_forW {g : D → MS} {b : MS} {N : En} (xs : List α) (f : α → D) (I : List α → List α → SL → List Cell → Prop) (h : Ge mw sl st (fun w st' => Walks w (xs.map f) (fun st => ∃ pre rest sl, I pre rest sl st) ∧ I [] xs sl st') fun x st' => N.xx x sl st')
    (hs : ∀ pre x rest sl st, xs = pre ++ x :: rest → I pre (x :: rest) sl st → Gs (g (f x)) sl st { nx := fun sl' st' => Gs b sl' st' { nx := I (pre ++ [x]) rest, rt := N.rt, bk := N.nx, ct := I (pre ++ [x]) rest, xx := N.xx }, rt := fun _ _ => False }) (hd : ∀ sl st, I xs [] sl st → N.nx sl st) : Gs (forW mw g b) sl st N := by
  refine gs_bind (h.mono (fun w st' h1 => ?_) fun _ _ z => z)
  obtain ⟨hw, h1⟩ := h1
  have key : ∀ rest pre sl st, xs = pre ++ rest → I pre rest sl st → Gs (loopW g b w (rest.length + 1) pre.length) sl st N := by
    intro rest
    induction rest with
    | nil =>
      intro pre sl st e h
      rw [List.append_nil] at e
      subst e
      refine ⟨?_⟩
      unfold GsD
      simp only [loopW]
      have ea := hw.at' st xs.length ⟨_, _, _, h⟩ (by rw [List.length_map]; exact Nat.le_refl _)
      rw [List.getElem?_eq_none (by rw [List.length_map]; exact Nat.le_refl _)] at ea
      rw [ea]
      exact hd sl st h
    | cons d ds ih =>
      intro pre sl st e h
      have q := hs pre d ds sl st e h
      refine ⟨?_⟩
      replace q := q.is
      unfold GsD at q ⊢
      have ea := hw.at' st pre.length ⟨_, _, _, h⟩ (by rw [List.length_map, e, List.length_append]; omega)
      have eg : (xs.map f)[pre.length]? = some (f d) := by
        rw [List.getElem?_map, e, List.getElem?_append_right (Nat.le_refl _), Nat.sub_self]
        rfl
      rw [eg] at ea
      simp only [loopW]
      rw [List.length_cons]
      rw [ea]
      dsimp only
      have e2 : xs = (pre ++ [d]) ++ ds := by rw [e]; simp
      have l2 : (pre ++ [d]).length = pre.length + 1 := by simp
      cases e1 : g (f d) ⟨sl, st⟩ with
      | next s1 =>
        rw [e1] at q
        dsimp only at q ⊢
        replace q := q.is
        unfold GsD at q
        cases e3 : b ⟨s1.sl, s1.st⟩ with
        | next s2 =>
          rw [e3] at q
          have := (ih (pre ++ [d]) s2.sl s2.st e2 q).is
          rw [l2] at this
          exact this
        | cont s2 =>
          rw [e3] at q
          have := (ih (pre ++ [d]) s2.sl s2.st e2 q).is
          rw [l2] at this
          exact this
        | brk s2 =>
          rw [e3] at q
          exact q
        | ret d s2 =>
          rw [e3] at q
          exact q
        | exc x s2 =>
          rw [e3] at q
          exact q
        | bad =>
          rw [e3] at q
          exact q.elim
      | _ =>
        rw [e1] at q
        exact q.elim
  have z := key xs [] sl st' rfl h1
  rw [hw.n, List.length_map]
  exact z
/-- a comprehension, turn by turn -/
theorem ge_compW {tA : M Bool} {vs : List Nat} {i : Nat} (xs : List α) (f : α → D) {P : List D → List Cell → Prop} (I : List α → List α → List D → List Cell → Prop) (hv : vs = [i]) (hno : noOwn sl vs = true)
    (h : Ge mw sl st (fun w st' => Walks w (xs.map f) (fun st => ∃ pre rest acc, I pre rest acc st) ∧ I [] xs [] st') E)
    (hs : ∀ pre x rest acc st, xs = pre ++ x :: rest → I pre (x :: rest) acc st → Ge tA ((wipeG sl vs).set i (some (.val (f x)))) st (fun b st1 => (b = true → Ge m ((wipeG sl vs).set i (some (.val (f x)))) st1 (fun y st2 => acc.length < sizeLine ∧ I (pre ++ [x]) rest (acc ++ [y]) st2) fun _ _ => False) ∧ (b = false → I (pre ++ [x]) rest acc st1)) fun _ _ => False)
    (hd : ∀ acc st, I xs [] acc st → P acc st) : Ge (compWM vs mw (setD i) tA m) sl st P E := by
  subst hv
  refine ge_bind (h.mono (fun w st' h1 => ?_) fun _ _ z => z)
  obtain ⟨hw, h1⟩ := h1
  have rest' : ∀ (s' : SL), s'.length = sl.length → (∀ j, j ≠ i → s'[j]? = sl[j]?) → restG sl s' [i] = sl := by
    intro s' hl hj
    refine List.ext_getElem? fun j => ?_
    show (s'.set i ((sl[i]?).getD none))[j]? = sl[j]?
    by_cases e : i = j
    · subst e
      by_cases hb : i < sl.length
      · rw [List.getElem?_set_self (by omega), List.getElem?_eq_getElem hb]
        rfl
      · rw [List.getElem?_eq_none (by simp; omega), List.getElem?_eq_none (by omega)]
    · rw [List.getElem?_set_ne e]
      exact hj j (fun z => e z.symm)
  have key : ∀ rest pre acc st (s' : SL), xs = pre ++ rest → s'.length = sl.length → (∀ j, j ≠ i → s'[j]? = sl[j]?) → I pre rest acc st → ∃ out s2, compLW [i] (setD i) tA m w (rest.length + 1) pre.length acc ⟨s', st⟩ = some (out, s2) ∧ s2.sl.length = sl.length ∧ (∀ j, j ≠ i → s2.sl[j]? = sl[j]?) ∧ P out s2.st := by
    intro rest
    induction rest with
    | nil =>
      intro pre acc st s' e hl hj h
      rw [List.append_nil] at e
      subst e
      have ea := hw.at' st xs.length ⟨_, _, _, h⟩ (by rw [List.length_map]; exact Nat.le_refl _)
      rw [List.getElem?_eq_none (by rw [List.length_map]; exact Nat.le_refl _)] at ea
      refine ⟨acc, ⟨s', st⟩, ?_, hl, hj, hd acc st h⟩
      simp only [compLW]
      rw [ea]
    | cons d ds ih =>
      intro pre acc st s' e hl hj h
      have q := hs pre d ds acc st e h
      have ea := hw.at' st pre.length ⟨_, _, _, h⟩ (by rw [List.length_map, e, List.length_append]; omega)
      have eg : (xs.map f)[pre.length]? = some (f d) := by
        rw [List.getElem?_map, e, List.getElem?_append_right (Nat.le_refl _), Nat.sub_self]
        rfl
      rw [eg] at ea
      have e2 : xs = (pre ++ [d]) ++ ds := by rw [e]; simp
      have l2 : (pre ++ [d]).length = pre.length + 1 := by simp
      have e0 : (wipeG s' [i]).set i (some (SV.val (f d))) = (wipeG sl [i]).set i (some (SV.val (f d))) := by
        refine List.ext_getElem? fun j => ?_
        show ((s'.set i none).set i (some (SV.val (f d))))[j]? = ((sl.set i none).set i (some (SV.val (f d))))[j]?
        rw [List.set_set, List.set_set]
        by_cases e : i = j
        · subst e
          by_cases hb : i < sl.length
          · rw [List.getElem?_set_self (by omega), List.getElem?_set_self hb]
          · rw [List.getElem?_eq_none (by simp; omega), List.getElem?_eq_none (by simp; omega)]
        · rw [List.getElem?_set_ne e, List.getElem?_set_ne e]
          exact hj j (fun z => e z.symm)
      have L : ((wipeG sl [i]).set i (some (SV.val (f d)))).length = sl.length := by
        rw [List.length_set, wipeG_len]
      have J : ∀ j, j ≠ i → ((wipeG sl [i]).set i (some (SV.val (f d))))[j]? = sl[j]? := fun j hji => by
        rw [List.getElem?_set_ne (fun z => hji z.symm), wipeG_out (by simpa using hji)]
      rw [List.length_cons]
      simp only [compLW, setD]
      rw [ea]
      dsimp only
      rw [e0]
      replace q := q.is
      unfold GeD at q
      cases e1 : tA ⟨(wipeG sl [i]).set i (some (SV.val (f d))), st⟩ with
      | ok b s1 =>
        rw [e1] at q
        obtain ⟨l1, t1⟩ := s1
        obtain ⟨q1, q2, q3⟩ := q
        dsimp only at q1 q2 q3 ⊢
        subst q1
        cases b with
        | false =>
          have := ih (pre ++ [d]) acc t1 _ e2 L J (q3 rfl)
          rw [l2] at this
          exact this
        | true =>
          have q4 := (q2 rfl).is
          unfold GeD at q4
          dsimp only
          cases e3 : m ⟨(wipeG sl [i]).set i (some (SV.val (f d))), t1⟩ with
          | ok y s2 =>
            rw [e3] at q4
            obtain ⟨l3, t2⟩ := s2
            obtain ⟨p1, p2, p3⟩ := q4
            dsimp only at p1 p2 p3 ⊢
            subst p1
            rw [decide_eq_true p2]
            have := ih (pre ++ [d]) (acc ++ [y]) t2 _ e2 L J p3
            rw [l2] at this
            exact this
          | exc x s2 =>
            rw [e3] at q4
            exact q4.2.elim
          | bad =>
            rw [e3] at q4
            exact q4.elim
      | exc x s1 =>
        rw [e1] at q
        exact q.2.elim
      | bad =>
        rw [e1] at q
        exact q.elim
  obtain ⟨out, s2, k1, k2, k3, k4⟩ := key xs [] [] st' sl rfl rfl (fun _ _ => rfl) h1
  refine ⟨?_⟩
  unfold GeD
  dsimp only
  rw [hno]
  dsimp only
  rw [hw.n, List.length_map]
  have k1' : compLW [i] (setD i) tA m w (xs.length + 1) 0 [] ⟨sl, st'⟩ = some (out, s2) := k1
  rw [k1']
  exact ⟨rest' _ k2 k3, k4⟩
/-- .. that changes no cell -/
theorem comp_filtW {tA : M Bool} {i : Nat} (xs : List α) (g : α → D) (p : α → Bool) (f : α → D) {P : List D → List Cell → Prop} (hl : xs.length ≤ 1000000) (hno : noOwn sl [i] = true)
    (h : Ge mw sl st (fun w st' => Walks w (xs.map g) (fun s => s = st) ∧ st' = st) E) (ht : ∀ x ∈ xs, Ge tA ((wipeG sl [i]).set i (some (.val (g x)))) st (fun b st' => b = p x ∧ st' = st) fun _ _ => False)
    (hs : ∀ x ∈ xs, p x = true → Ge m ((wipeG sl [i]).set i (some (.val (g x)))) st (fun y st' => y = f x ∧ st' = st) fun _ _ => False)
    (q : P ((xs.filter p).map f) st) : Ge (compWM [i] mw (setD i) tA m) sl st P E := by
  refine ge_compW xs g (I := fun pre rest acc st' => st' = st ∧ acc = (pre.filter p).map f) rfl hno (h.mono (fun w st' z => ⟨⟨z.1.n, fun s i a => z.1.at' s i (by obtain ⟨_, _, _, a, _⟩ := a; exact a)⟩, z.2, rfl⟩) fun _ _ z => z) ?_ ?_
  · rintro pre x rest acc st' e1 ⟨rfl, rfl⟩
    have hx : x ∈ xs := by rw [e1]; simp
    refine (ht x hx).mono (fun b st2 z => ?_) fun _ _ z => z
    obtain ⟨rfl, rfl⟩ := z
    refine ⟨fun hb => (hs x hx hb).mono (fun y st3 z => ?_) fun _ _ z => z, fun hb => ?_⟩
    · obtain ⟨rfl, rfl⟩ := z
      have l1 := List.length_filter_le p pre
      have l2 := congrArg List.length e1
      rw [List.length_append] at l2
      refine ⟨by rw [List.length_map, sizeLine_eq]; omega, rfl, ?_⟩
      rw [List.filter_append, List.map_append, List.filter_cons, if_pos hb]
      rfl
    · refine ⟨rfl, ?_⟩
      rw [List.filter_append, List.map_append, List.filter_cons, if_neg (by rw [hb]; exact Bool.false_ne_true)]
      simp
  · rintro acc st' ⟨rfl, rfl⟩
    exact q
theorem comp_mapW {i : Nat} (xs : List α) (g f : α → D) {P : List D → List Cell → Prop} (hl : xs.length ≤ 1000000) (hno : noOwn sl [i] = true)
    (h : Ge mw sl st (fun w st' => Walks w (xs.map g) (fun s => s = st) ∧ st' = st) E) (hs : ∀ x ∈ xs, Ge m ((wipeG sl [i]).set i (some (.val (g x)))) st (fun y st' => y = f x ∧ st' = st) fun _ _ => False)
    (q : P (xs.map f) st) : Ge (compWM [i] mw (setD i) (pureM true) m) sl st P E :=
  comp_filtW xs g (fun _ => true) f hl hno h (fun x hx => ge_pure ⟨rfl, rfl⟩) (fun x hx _ => hs x hx) (by rw [List.filter_eq_self.mpr fun _ _ => rfl]; exact q)
end
end Mir
/-! M25: the plain side: appends, splits, lists of texts. -/
namespace Mir
open PySem PySem.Spec PyProof.Rows L2
section
variable {sl : SL} {st : List Cell} {E : Ex → List Cell → Prop} {m m1 m2 : M D} {Q : D → Prop}
theorem ge_append {P : D → List Cell → Prop} (h : Ge m1 sl st (fun x st1 => ∃ n, x = .ref n ∧ (∃ xs0, st1[n]? = some (.lst xs0)) ∧ Ge m2 sl st1 (fun y st2 => ∃ xs, st2[n]? = some (.lst xs) ∧ xs.length < sizeLine ∧ P .non (st2.set n (.lst (xs ++ [y])))) E) E) : Ge (celM appF m1 m2) sl st P E := by
  refine ge_bind (h.mono (fun x st1 h1 => ?_) fun _ _ z => z)
  obtain ⟨n, rfl, ⟨xs0, e0⟩, h1⟩ := h1
  refine ⟨?_⟩
  have q : Ge (bindM m2 fun y s => match D.ref n with
    | .ref n => (match s.st[n]? with
      | some (.lst xs) => (match appF xs y with
        | some p => .ok p.1 { s with st := s.st.set n (.lst p.2) }
        | none => .bad)
      | _ => .bad)
    | _ => .bad) sl st1 P E := by
    refine ge_bind (h1.mono (fun y st2 h2 => ?_) fun _ _ z => z)
    obtain ⟨xs, e, hl, p⟩ := h2
    refine ⟨?_⟩
    unfold GeD
    dsimp only
    rw [e]
    dsimp only
    unfold appF
    rw [if_pos hl]
    exact ⟨rfl, p⟩
  replace q := q.is
  unfold GeD at q ⊢
  dsimp only [lstOf]
  rw [e0]
  exact q
theorem q_app {n : Nat} {xs : List D} {G : Nat → Prop} (e : st[n]? = some (.lst xs)) (g : G n) : ∃ n', D.ref n = .ref n' ∧ (∃ xs0, st[n']? = some (.lst xs0)) ∧ G n' := ⟨n, rfl, ⟨xs, e⟩, g⟩
theorem q_app2 {n : Nat} {xs : List D} {P : List D → Prop} (e : st[n]? = some (.lst xs)) (h : xs.length < 1000000) (p : P xs) : ∃ ys, st[n]? = some (.lst ys) ∧ ys.length < sizeLine ∧ P ys := ⟨xs, e, by rw [sizeLine_eq]; omega, p⟩
theorem ge_splitL {P : List D → List Cell → Prop} (h : Ge m1 sl st (fun x st1 => ∃ a, x = .str a ∧ Ge m2 sl st1 (fun y st2 => ∃ b, y = .str b ∧ (b.length == 0) = false ∧ a.length + 2 ≤ sizeLine ∧ P ((Txt.split a b).map D.str) st2) E) E) : Ge (splitL m1 m2) sl st P E := by
  refine ge_bind (h.mono (fun x st1 h1 => ?_) fun _ _ z => z)
  obtain ⟨a, rfl, h1⟩ := h1
  refine ge_bind (h1.mono (fun y st2 h2 => ?_) fun _ _ z => z)
  obtain ⟨b, rfl, e1, e2, p⟩ := h2
  refine ⟨?_⟩
  unfold GeD
  dsimp only
  rw [if_pos ⟨e1, e2⟩]
  exact ⟨rfl, p⟩
theorem q_split {a b : Str} {P : List D → Prop} (hb : 0 < b.length) (ha : a.length ≤ 1000000) (p : P ((Txt.split a b).map D.str)) : ∃ b', D.str b = .str b' ∧ (b'.length == 0) = false ∧ a.length + 2 ≤ sizeLine ∧ P ((Txt.split a b').map D.str) := ⟨b, rfl, by simp; omega, by rw [sizeLine_eq]; omega, p⟩
theorem blsD_map {α : Type} (f : α → Bool) : ∀ xs : List α, blsD (xs.map fun x => D.bl (f x)) = some (xs.map f)
  | [] => rfl
  | x :: xs => by
    rw [List.map_cons]
    unfold blsD
    rw [blsD_map f xs]
    rfl
theorem q_all {α : Type} {f : α → Bool} {xs : List α} (q : Q (.bl (xs.all f))) : ∃ d, boolsD (fun bs => bs.all id) st [.lst (xs.map fun x => D.bl (f x))] = some d ∧ Q d := by
  refine ⟨_, ?_, q⟩
  unfold boolsD
  dsimp only [lstOf]
  rw [blsD_map]
  show some (D.bl ((xs.map f).all id)) = _
  rw [List.all_map]
  rfl
theorem q_any {α : Type} {f : α → Bool} {xs : List α} (q : Q (.bl (xs.any f))) : ∃ d, boolsD (fun bs => bs.any id) st [.lst (xs.map fun x => D.bl (f x))] = some d ∧ Q d := by
  refine ⟨_, ?_, q⟩
  unfold boolsD
  dsimp only [lstOf]
  rw [blsD_map]
  show some (D.bl ((xs.map f).any id)) = _
  rw [List.any_map]
  rfl
theorem eqv_str (a b : Str) : PyData.eqv (.str a) (.str b) = decide (a = b) := by
  unfold PyData.eqv
  by_cases z : a = b
  · subst z
    simp
  · rw [decide_eq_false z]
    simpa using z
theorem any_str (a : Str) : ∀ ws : List Str, (pdL (ws.map D.str)).any (fun z => PyData.eqv z (.str a)) = decide (a ∈ ws)
  | [] => by simp [pdL]
  | w :: ws => by
    have ih := any_str a ws
    simp only [List.map_cons, pdL, pd, List.any_cons, ih, eqv_str]
    by_cases h : a = w
    · subst h
      simp
    · have h' : ¬ w = a := fun z => h z.symm
      simp [h, h']
theorem okPL_strs {ws : List Str} (h : ∀ w ∈ ws, PyData.strOk w = true) : okPL (ws.map D.str) := okPL_all.mpr fun d hd => by
  obtain ⟨w, hw, rfl⟩ := List.mem_map.mp hd
  simp only [okP]
  exact h w hw
theorem dep_strs (ws : List Str) : depL (ws.map D.str) = 0 := depL_0 fun d hd => by
  obtain ⟨w, hw, rfl⟩ := List.mem_map.mp hd
  rfl
theorem pl_strs {ws : List Str} (h : ∀ w ∈ ws, PyData.strOk w = true) : Pl (.lst (ws.map D.str)) := ⟨by simp only [okP]; exact okPL_strs h, by simp only [dep, dep_strs]; decide⟩
theorem sh_strs {ws : List Str} (h : ∀ w ∈ ws, PyData.strOk w = true) (n k : Nat) (hw : ∀ w ∈ ws, w.length ≤ n) (hl : ws.length ≤ k) (hk : k * (n + 1) ≤ 200000) : Sh (.lst (ws.map D.str)) := by
  refine ⟨(pl_strs h).ok, (pl_strs h).dp, ?_⟩
  simp only [wtD]
  have := wtL_le (w := n) (ds := ws.map D.str) fun d hd => by
    obtain ⟨w, hw', rfl⟩ := List.mem_map.mp hd
    exact hw w hw'
  rw [List.length_map] at this
  have h2 : ws.length * (n + 1) ≤ k * (n + 1) := Nat.mul_le_mul_right _ hl
  omega
theorem q_inLst {x y : D} {ys : List D} (hy : lstOf st y = some ys) (hn : ∀ z, x ≠ .str z ∨ ∀ w, y ≠ .str w) (hn2 : ∀ i, x ≠ .int i ∨ ∀ lo hi, y ≠ .rng lo hi) (hx : Pl x) (hp : Pl (.lst ys)) (q : Q (.bl ((pdL ys).any fun z => PyData.eqv z (pd x)))) : ∃ d, fIn st x y = some d ∧ Q d := by
  refine ⟨_, ?_, q⟩
  unfold fIn
  have e : inD st x y = some ((pdL ys).any fun z => PyData.eqv z (pd x)) := by
    unfold inD
    split
    · rename_i i lo hi
      rcases hn2 i with z | z
      · exact absurd rfl z
      · exact absurd rfl (z lo hi)
    · rename_i a z
      rcases hn a with w | w
      · exact absurd rfl w
      · exact absurd rfl (w z)
    · rw [hy]
      dsimp only
      rw [hx.py st, hp.pyL st]
  rw [e]
  rfl
theorem q_inS {a : Str} {ws : List Str} (ha : PyData.strOk a = true) (h : ∀ w ∈ ws, PyData.strOk w = true) (q : Q (.bl (decide (a ∈ ws)))) : ∃ d, fIn st (.str a) (.lst (ws.map D.str)) = some d ∧ Q d :=
  q_inLst rfl (fun _ => .inr fun _ z => by cases z) (fun _ => .inl fun z => by cases z) ⟨by simp only [okP]; exact ha, by simp [dep]⟩ (pl_strs h) (by
    show Q (.bl ((pdL (ws.map D.str)).any fun z => PyData.eqv z (.str a)))
    rw [any_str]
    exact q)
theorem lstOf_ref {n : Nat} {xs : List D} (e : st[n]? = some (.lst xs)) : lstOf st (.ref n) = some xs := by
  unfold lstOf
  dsimp only
  rw [e]
theorem q_inSR {a : Str} {n : Nat} {ws : List Str} (e : st[n]? = some (.lst (ws.map D.str))) (ha : PyData.strOk a = true) (h : ∀ w ∈ ws, PyData.strOk w = true) (q : Q (.bl (decide (a ∈ ws)))) : ∃ d, fIn st (.str a) (.ref n) = some d ∧ Q d :=
  q_inLst (ys := ws.map D.str) (lstOf_ref e) (fun _ => .inr fun _ z => by cases z) (fun _ => .inl fun z => by cases z) ⟨by simp only [okP]; exact ha, by simp [dep]⟩ (pl_strs h) (by
    show Q (.bl ((pdL (ws.map D.str)).any fun z => PyData.eqv z (.str a)))
    rw [any_str]
    exact q)
/-- a sign in a text -/
theorem q_inC {c : Nat} {w : Str} (q : Q (.bl (decide (c ∈ w.cps.toList)))) : ∃ d, fIn st (sg c) (.str w) = some d ∧ Q d := ⟨_, rfl, q⟩
theorem py_ref {n : Nat} {xs : List D} (e : st[n]? = some (.lst xs)) (h : Pl (.lst xs)) : py st 20 (.ref n) = some (pd (.lst xs)) := by
  show (match st[n]? with
    | some (.lst xs) => (pyL (py st 19) xs).map PyData.list
    | _ => none) = _
  rw [e]
  dsimp only
  rw [h.pyL st]
  rfl
theorem q_eqRef {n : Nat} {xs : List D} (e : st[n]? = some (.lst xs)) (h : Pl (.lst xs)) (q : Q (.bl true)) : ∃ d, fEq st (.ref n) (.lst xs) = some d ∧ Q d := ⟨_, by unfold fEq; rw [eqD_py (py_ref e h) (h.py st), eqv_pd h.ok]; rfl, q⟩
theorem q_neRef {n : Nat} {xs : List D} (e : st[n]? = some (.lst xs)) (h : Pl (.lst xs)) (q : Q (.bl false)) : ∃ d, fNe st (.ref n) (.lst xs) = some d ∧ Q d := ⟨_, by unfold fNe; rw [eqD_py (py_ref e h) (h.py st), eqv_pd h.ok]; rfl, q⟩
theorem q_count {c : Nat} {a : Str} (q : ∀ i : Int, (0 < i ↔ c ∈ a.cps.toList) → Q (.int i)) : ∃ d, countD st a (sg c) = some d ∧ Q d := by
  refine ⟨_, rfl, q _ ?_⟩
  rw [count_cnt]
  have key : ∀ l : List Nat, 0 ≤ PyProof.Rows.cnt c l ∧ (0 < PyProof.Rows.cnt c l ↔ c ∈ l) := by
    intro l
    induction l with
    | nil =>
      rw [cnt_nil]
      simp
    | cons d l ih =>
      rw [cnt_cons]
      by_cases h : d = c
      · subst h
        rw [if_pos rfl]
        refine ⟨by omega, ⟨fun _ => List.mem_cons_self .., fun _ => by omega⟩⟩
      · rw [if_neg h]
        refine ⟨by omega, ?_⟩
        rw [List.mem_cons, Int.zero_add, ih.2]
        constructor
        · exact fun z => .inr z
        · rintro (z | z)
          · exact absurd z.symm h
          · exact z
  exact (key _).2
theorem strRep_tl (a : Str) (n : Nat) : (strRep a n).cps.toList = (List.replicate n a.cps.toList).flatten := by
  have key : ∀ (n : Nat) (z : Array Nat), ((List.replicate n a.cps).foldl (· ++ ·) z).toList = z.toList ++ (List.replicate n a.cps.toList).flatten := by
    intro n
    induction n with
    | zero => intro z; simp
    | succ n ih =>
      intro z
      rw [List.replicate_succ, List.foldl_cons, ih, List.replicate_succ, List.flatten_cons, Array.toList_append, List.append_assoc]
  show ((List.replicate n a.cps).foldl (· ++ ·) #[]).toList = _
  rw [key]
  rfl
theorem strRep_asc {a : Str} (h : Asc a) (n : Nat) : Asc (strRep a n) := fun c hc => by
  rw [strRep_tl] at hc
  obtain ⟨l, hl, hc⟩ := List.mem_flatten.mp hc
  rw [List.eq_of_mem_replicate hl] at hc
  exact h c hc
theorem q_mulS {a : Str} {k : Int} (h0 : 0 ≤ k) (h1 : k ≤ 100000) (h : a.length * k.toNat ≤ 1000000) (q : Q (.str (strRep a k.toNat))) : ∃ d, mulD st (.str a) (.int k) = some d ∧ Q d :=
  ⟨_, by unfold mulD; dsimp only; rw [if_pos ⟨by omega, by omega, by rw [sizeLine_eq]; omega⟩], q⟩
theorem q_mulB {a : Str} {b : Bool} (ha : Asc a) (h : a.length ≤ 1000) (q : ∀ r : Str, Asc r → r.length ≤ a.length → Q (.str r)) : ∃ d, mulD st (.str a) (.int (if b = true then 1 else 0)) = some d ∧ Q d := by
  cases b with
  | true =>
    refine q_mulS (k := 1) (by decide) (by decide) (by show a.length * 1 ≤ _; omega) (q _ (strRep_asc ha _) ?_)
    rw [strRep_len]
    show a.length * 1 ≤ _
    omega
  | false =>
    refine q_mulS (k := 0) (by decide) (by decide) (by show a.length * 0 ≤ _; omega) (q _ (strRep_asc ha _) ?_)
    rw [strRep_len]
    show a.length * 0 ≤ _
    omega
theorem q_intB {b : Bool} (q : Q (.int (if b = true then 1 else 0))) : ∃ d, int2D st [.bl b] = some d ∧ Q d := ⟨_, rfl, q⟩
/-- a comprehension over numbers that draws a sign in each turn: what stands of the store is G by the turns that are left -/
theorem comp_drawn {i : Nat} {mi : M (List D)} {m : M D} {sl : SL} {P : List D → List Cell → Prop} (G : Nat → List Cell → Prop) (k : Nat) (hk : k ≤ 100000) (hno : noOwn sl [i] = true)
    (h : Ge mi sl st (fun items st' => items.length ≤ k ∧ G items.length st') E) (hs : ∀ d n st', G (n + 1) st' → Ge m ((wipeG sl [i]).set i (some (.val d))) st' (fun y st2 => (∃ c, c < 128 ∧ y = sg c) ∧ G n st2) fun _ _ => False)
    (q : ∀ (ys : List Nat) st', (∀ c ∈ ys, c < 128) → ys.length ≤ k → G 0 st' → P (ys.map sg) st') : Ge (compM [i] mi (setD i) (pureM true) m) sl st P E := by
  refine ge_comp (I := fun items acc st' => ∃ ys : List Nat, acc = ys.map sg ∧ (∀ c ∈ ys, c < 128) ∧ ys.length + items.length ≤ k ∧ G items.length st') rfl hno (h.mono (fun items st' z => ⟨[], rfl, by simp, by simpa using z.1, z.2⟩) fun _ _ z => z) ?_ ?_
  · rintro d ds acc st' ⟨ys, rfl, hc, hl, hg⟩
    rw [List.length_cons] at hl hg
    refine ge_pure ⟨fun _ => ?_, fun z => (by cases z)⟩
    refine (hs d _ _ hg).mono (fun y st2 z => ?_) fun _ _ z => z
    obtain ⟨⟨c, hc2, rfl⟩, hg2⟩ := z
    refine ⟨by rw [List.length_map, sizeLine_eq]; omega, ys ++ [c], by simp, fun e he => ?_, by rw [List.length_append, List.length_singleton]; omega, hg2⟩
    rcases List.mem_append.mp he with z | z
    · exact hc e z
    · rw [List.mem_singleton] at z
      rw [z]
      exact hc2
  · rintro acc st' ⟨ys, rfl, hc, hl, hg⟩
    exact q ys st' hc (by simpa using hl) hg
theorem q_joinA {ys : List Nat} {Q : D → Prop} (k : Nat) (hk : k ≤ 1000) (hc : ∀ c ∈ ys, c < 128) (h : ys.length ≤ k) (q : ∀ w : Str, w.length ≤ k → Asc w → Q (.str w)) : ∃ d, joinD st "" (.lst (ys.map sg)) = some d ∧ Q d :=
  q_joinS (by omega) (q _ (by show ys.toArray.size ≤ k; simpa using h) fun c z => hc c (by simpa using z))
end
end Mir
/-! The walks of the law and of what it calls: printed by gen.py. -/
namespace Lw
open PySem PySem.Spec PyProof.Rows L2 Mir
def top (i : Nat) : Stmt := PySem.Challenge.pw_leastreplan_k03_numbers_and_words_in_tex.main.body.getD i (.Pass ⟨0, 0, 0, 0⟩)
abbrev s__law_box : Stmt := top 10
theorem sc__law_box : FnScope ["_law_cell_here"] ["_law_cell_here"] (defScope s__law_box) := ⟨rfl, rfl, rfl, by decide +kernel, rfl, by decide +kernel, by decide +kernel⟩
abbrev s__law_cell : Stmt := top 9
theorem sc__law_cell : FnScope ["_law_script", "_law_k"] ["_law_script", "_law_k"] (defScope s__law_cell) := ⟨rfl, rfl, rfl, by decide +kernel, rfl, by decide +kernel, by decide +kernel⟩
abbrev s__law_take : Stmt := top 11
theorem sc__law_take : FnScope ["_law_box_here", "_law_many", "_law_digit", "_law_mixed"] ["_law_box_here", "_law_many"] (defScope s__law_take) := ⟨rfl, rfl, rfl, by decide +kernel, rfl, by decide +kernel, by decide +kernel⟩
abbrev s_parse_integer : Stmt := top 3
theorem sc_parse_integer : FnScope ["text", "low", "high", "number"] ["text", "low", "high"] (defScope s_parse_integer) := ⟨rfl, rfl, rfl, by decide +kernel, rfl, by decide +kernel, by decide +kernel⟩
abbrev s_split_words : Stmt := top 4
theorem sc_split_words : FnScope ["text", "separator", "words", "word"] ["text", "separator"] (defScope s_split_words) := ⟨rfl, rfl, rfl, by decide +kernel, rfl, by decide +kernel, by decide +kernel⟩
abbrev s__law_long_right : Stmt := top 19
theorem sc__law_long_right : FnScope ["_law_box_here", "_law_many", "_law_far"] ["_law_box_here"] (defScope s__law_long_right) := ⟨rfl, rfl, rfl, by decide +kernel, rfl, by decide +kernel, by decide +kernel⟩
abbrev s__law_digits : Stmt := top 12
theorem sc__law_digits : FnScope ["_law_box_here", "_law_many", "_law_found", "_law_way", "_law_at", "_law_signs", "_law_some", "_law_k"] ["_law_box_here"] (defScope s__law_digits) := ⟨rfl, rfl, rfl, by decide +kernel, rfl, by decide +kernel, by decide +kernel⟩
abbrev s__law_number : Stmt := top 13
theorem sc__law_number : FnScope ["_law_line", "_law_number_here", "_law_sign"] ["_law_line"] (defScope s__law_number) := ⟨rfl, rfl, rfl, by decide +kernel, rfl, by decide +kernel, by decide +kernel⟩
abbrev s__law_within : Stmt := top 14
theorem sc__law_within : FnScope ["_law_number_here", "_law_least", "_law_most"] ["_law_number_here", "_law_least", "_law_most"] (defScope s__law_within) := ⟨rfl, rfl, rfl, by decide +kernel, rfl, by decide +kernel, by decide +kernel⟩
abbrev s__law_numbers_right : Stmt := top 15
theorem sc__law_numbers_right : FnScope ["_law_box_here", "_law_line", "_law_number_here", "_law_near", "_law_far", "_law_least", "_law_most", "_law_found", "_law_due", "_law_some", "_law_thing"] ["_law_box_here"] (defScope s__law_numbers_right) := ⟨rfl, rfl, rfl, by decide +kernel, rfl, by decide +kernel, by decide +kernel⟩
abbrev s__law_words : Stmt := top 16
theorem sc__law_words : FnScope ["_law_box_here", "_law_sign", "_law_letters", "_law_line", "_law_k", "_law_word", "_law_gap", "_law_j"] ["_law_box_here", "_law_sign"] (defScope s__law_words) := ⟨rfl, rfl, rfl, by decide +kernel, rfl, by decide +kernel, by decide +kernel⟩
abbrev s__law_parted : Stmt := top 17
theorem sc__law_parted : FnScope ["_law_line", "_law_sign", "_law_found", "_law_word", "_law_one"] ["_law_line", "_law_sign"] (defScope s__law_parted) := ⟨rfl, rfl, rfl, by decide +kernel, rfl, by decide +kernel, by decide +kernel⟩
abbrev s__law_words_right : Stmt := top 18
theorem sc__law_words_right : FnScope ["_law_box_here", "_law_signs", "_law_sign", "_law_line", "_law_lap", "_law_found", "_law_some", "_law_thing"] ["_law_box_here"] (defScope s__law_words_right) := ⟨rfl, rfl, rfl, by decide +kernel, rfl, by decide +kernel, by decide +kernel⟩
abbrev s_law : Stmt := top 20
theorem sc_law : FnScope ["_law_script", "_law_k", "_law_box_here", "_law_turn"] ["_law_script"] (defScope s_law) := ⟨rfl, rfl, rfl, by decide +kernel, rfl, by decide +kernel, by decide +kernel⟩
abbrev s_InvalidText : Stmt := inClass (top 7) 0
theorem sc_InvalidText : FnScope ["self", "value"] ["self", "value"] (defScope s_InvalidText) := ⟨rfl, rfl, rfl, by decide +kernel, rfl, by decide +kernel, by decide +kernel⟩
/-! ### isinstance -/
def exs : List Str := ["InvalidText"]
abbrev kt : Ty → Ty → Option Bool := ktO exs
/-! ### what the top has written -/
structure Txt (K : PySem.W.Frag) (mg : Str → Option Value) where
  f__law_box : Addr
  d__law_box : FuncData
  F__law_box : Fun K "_law_box" "_law_box" s__law_box f__law_box d__law_box
  g__law_box : mg "_law_box" = some (.ref f__law_box)
  k__law_box : PySem.W.keepIn K (.ref f__law_box) = true
  f__law_cell : Addr
  d__law_cell : FuncData
  F__law_cell : Fun K "_law_cell" "_law_cell" s__law_cell f__law_cell d__law_cell
  g__law_cell : mg "_law_cell" = some (.ref f__law_cell)
  k__law_cell : PySem.W.keepIn K (.ref f__law_cell) = true
  f__law_take : Addr
  d__law_take : FuncData
  F__law_take : Fun K "_law_take" "_law_take" s__law_take f__law_take d__law_take
  g__law_take : mg "_law_take" = some (.ref f__law_take)
  k__law_take : PySem.W.keepIn K (.ref f__law_take) = true
  f_parse_integer : Addr
  d_parse_integer : FuncData
  F_parse_integer : Fun K "parse_integer" "parse_integer" s_parse_integer f_parse_integer d_parse_integer
  g_parse_integer : mg "parse_integer" = some (.ref f_parse_integer)
  k_parse_integer : PySem.W.keepIn K (.ref f_parse_integer) = true
  D_parse_integer : Addr
  Fk_parse_integer : ∃ (doc pm : Value) (an : Option Addr) (cdv ct : Value), d_parse_integer = PySem.W.fnOf "parse_integer" "parse_integer" (defArgs s_parse_integer) (defBody s_parse_integer) (defScope s_parse_integer) .none (.ref D_parse_integer) doc pm an cdv ct
  t_parse_integer_low : Tok
  kd_parse_integer_low : PySem.W.nsIn K D_parse_integer "low" = some (some (.int 0 t_parse_integer_low))
  t_parse_integer_high : Tok
  kd_parse_integer_high : PySem.W.nsIn K D_parse_integer "high" = some (some (.int 999999 t_parse_integer_high))
  f_split_words : Addr
  d_split_words : FuncData
  F_split_words : Fun K "split_words" "split_words" s_split_words f_split_words d_split_words
  g_split_words : mg "split_words" = some (.ref f_split_words)
  k_split_words : PySem.W.keepIn K (.ref f_split_words) = true
  D_split_words : Addr
  Fk_split_words : ∃ (doc pm : Value) (an : Option Addr) (cdv ct : Value), d_split_words = PySem.W.fnOf "split_words" "split_words" (defArgs s_split_words) (defBody s_split_words) (defScope s_split_words) .none (.ref D_split_words) doc pm an cdv ct
  t_split_words_separator : Tok
  kd_split_words_separator : PySem.W.nsIn K D_split_words "separator" = some (some (.str " " t_split_words_separator))
  f__law_long_right : Addr
  d__law_long_right : FuncData
  F__law_long_right : Fun K "_law_long_right" "_law_long_right" s__law_long_right f__law_long_right d__law_long_right
  g__law_long_right : mg "_law_long_right" = some (.ref f__law_long_right)
  k__law_long_right : PySem.W.keepIn K (.ref f__law_long_right) = true
  f__law_digits : Addr
  d__law_digits : FuncData
  F__law_digits : Fun K "_law_digits" "_law_digits" s__law_digits f__law_digits d__law_digits
  g__law_digits : mg "_law_digits" = some (.ref f__law_digits)
  k__law_digits : PySem.W.keepIn K (.ref f__law_digits) = true
  f__law_number : Addr
  d__law_number : FuncData
  F__law_number : Fun K "_law_number" "_law_number" s__law_number f__law_number d__law_number
  g__law_number : mg "_law_number" = some (.ref f__law_number)
  k__law_number : PySem.W.keepIn K (.ref f__law_number) = true
  f__law_within : Addr
  d__law_within : FuncData
  F__law_within : Fun K "_law_within" "_law_within" s__law_within f__law_within d__law_within
  g__law_within : mg "_law_within" = some (.ref f__law_within)
  k__law_within : PySem.W.keepIn K (.ref f__law_within) = true
  f__law_numbers_right : Addr
  d__law_numbers_right : FuncData
  F__law_numbers_right : Fun K "_law_numbers_right" "_law_numbers_right" s__law_numbers_right f__law_numbers_right d__law_numbers_right
  g__law_numbers_right : mg "_law_numbers_right" = some (.ref f__law_numbers_right)
  k__law_numbers_right : PySem.W.keepIn K (.ref f__law_numbers_right) = true
  f__law_words : Addr
  d__law_words : FuncData
  F__law_words : Fun K "_law_words" "_law_words" s__law_words f__law_words d__law_words
  g__law_words : mg "_law_words" = some (.ref f__law_words)
  k__law_words : PySem.W.keepIn K (.ref f__law_words) = true
  f__law_parted : Addr
  d__law_parted : FuncData
  F__law_parted : Fun K "_law_parted" "_law_parted" s__law_parted f__law_parted d__law_parted
  g__law_parted : mg "_law_parted" = some (.ref f__law_parted)
  k__law_parted : PySem.W.keepIn K (.ref f__law_parted) = true
  f__law_words_right : Addr
  d__law_words_right : FuncData
  F__law_words_right : Fun K "_law_words_right" "_law_words_right" s__law_words_right f__law_words_right d__law_words_right
  g__law_words_right : mg "_law_words_right" = some (.ref f__law_words_right)
  k__law_words_right : PySem.W.keepIn K (.ref f__law_words_right) = true
  f_law : Addr
  d_law : FuncData
  F_law : Fun K "law" "law" s_law f_law d_law
  g_law : mg "law" = some (.ref f_law)
  k_law : PySem.W.keepIn K (.ref f_law) = true
  t_DIGITS : Tok
  c_DIGITS : mg "DIGITS" = some (.str "0123456789" t_DIGITS)
  t_MOST_DIGITS : Tok
  c_MOST_DIGITS : mg "MOST_DIGITS" = some (.int 30 t_MOST_DIGITS)
  n_all : mg "all" = none
  n_int : mg "int" = none
  n_isinstance : mg "isinstance" = none
  n_len : mg "len" = none
  n_max : mg "max" = none
  n_min : mg "min" = none
  n_range : mg "range" = none
  n_repr : mg "repr" = none
  n_str : mg "str" = none
  B_PlanError : BasC K mg "PlanError"
  C_InvalidText : Addr
  g_InvalidText : mg "InvalidText" = some (.ref C_InvalidText)
  T_InvalidText : OexC K C_InvalidText
  E_InvalidText : ExcC K C_InvalidText
  no_InvalidText : PySem.W.findIn K (.ref C_InvalidText) "value" = some none
  fi_InvalidText : Addr
  di_InvalidText : FuncData
  Fi_InvalidText : Fun K "__init__" "InvalidText.__init__" s_InvalidText fi_InvalidText di_InvalidText
  ii_InvalidText : PySem.W.findIn K (.ref C_InvalidText) "__init__" = some (some (.ref fi_InvalidText))
  ti_InvalidText : PySem.W.typeIn K (.ref fi_InvalidText) = some (.type "function")
section
variable {P : Program} {w : World} {K : PySem.W.Frag} {mg : Str → Option Value} {base : Heap}
theorem exs_is (t : Txt K mg) (C : Str) (ca : Addr) (h : C ∈ exs) (g : mg C = some (.ref ca)) : OexC K ca ∧ ExcC K ca := by
  unfold exs at h
  simp only [List.mem_cons, List.not_mem_nil, or_false] at h
  subst h
  have z := g.symm.trans t.g_InvalidText
  cases z
  exact ⟨t.T_InvalidText, t.E_InvalidText⟩
theorem exs_at (t : Txt K mg) : ∀ C ∈ exs, ∃ ca, mg C = some (.ref ca) := by
  intro C h
  unfold exs at h
  simp only [List.mem_cons, List.not_mem_nil, or_false] at h
  subst h
  exact ⟨_, t.g_InvalidText⟩
theorem Txt.kit (t : Txt K mg) : KitS K mg kt := kitS_of exs (fun C ca h g => (exs_is t C ca h g).1) (fun C ca h g => (exs_is t C ca h g).2) (exs_at t)
theorem Txt.mk_InvalidText (t : Txt K mg) (X : Cx) (eK : X.K = K := by rfl) (em : X.mg = mg := by rfl) : MkE X "InvalidText" t.C_InvalidText ["self", "value"] (spInit X.K "value") := by
  subst eK
  subst em
  have Fi := t.Fi_InvalidText
  have B_ := t.B_PlanError
  exact ⟨t.T_InvalidText, t.g_InvalidText, t.fi_InvalidText, t.di_InvalidText, t.ii_InvalidText, t.ti_InvalidText, init_ok Fi B_ sc_InvalidText rfl (gl_of rfl) rfl (fun _ => rfl) rfl rfl rfl rfl, Fi.binds fun _ _ _ _ _ _ us hl => match us, hl with | [_, _], _ => rfl⟩
theorem Txt.b__law_box (t : Txt K mg) : Binds K t.d__law_box ["_law_cell_here"] [] := t.F__law_box.binds fun _ _ _ _ _ _ us hl => match us, hl with | [_], _ => rfl
theorem Txt.b__law_cell (t : Txt K mg) : Binds K t.d__law_cell ["_law_script", "_law_k"] [] := t.F__law_cell.binds fun _ _ _ _ _ _ us hl => match us, hl with | [_, _], _ => rfl
theorem Txt.b__law_take (t : Txt K mg) : Binds K t.d__law_take ["_law_box_here", "_law_many"] [] := t.F__law_take.binds fun _ _ _ _ _ _ us hl => match us, hl with | [_, _], _ => rfl
theorem Txt.b__law_long_right (t : Txt K mg) : Binds K t.d__law_long_right ["_law_box_here"] [] := t.F__law_long_right.binds fun _ _ _ _ _ _ us hl => match us, hl with | [_], _ => rfl
theorem Txt.b__law_digits (t : Txt K mg) : Binds K t.d__law_digits ["_law_box_here"] [] := t.F__law_digits.binds fun _ _ _ _ _ _ us hl => match us, hl with | [_], _ => rfl
theorem Txt.b__law_number (t : Txt K mg) : Binds K t.d__law_number ["_law_line"] [] := t.F__law_number.binds fun _ _ _ _ _ _ us hl => match us, hl with | [_], _ => rfl
theorem Txt.b__law_within (t : Txt K mg) : Binds K t.d__law_within ["_law_number_here", "_law_least", "_law_most"] [] := t.F__law_within.binds fun _ _ _ _ _ _ us hl => match us, hl with | [_, _, _], _ => rfl
theorem Txt.b__law_numbers_right (t : Txt K mg) : Binds K t.d__law_numbers_right ["_law_box_here"] [] := t.F__law_numbers_right.binds fun _ _ _ _ _ _ us hl => match us, hl with | [_], _ => rfl
theorem Txt.b__law_words (t : Txt K mg) : Binds K t.d__law_words ["_law_box_here", "_law_sign"] [] := t.F__law_words.binds fun _ _ _ _ _ _ us hl => match us, hl with | [_, _], _ => rfl
theorem Txt.b__law_parted (t : Txt K mg) : Binds K t.d__law_parted ["_law_line", "_law_sign"] [] := t.F__law_parted.binds fun _ _ _ _ _ _ us hl => match us, hl with | [_, _], _ => rfl
theorem Txt.b__law_words_right (t : Txt K mg) : Binds K t.d__law_words_right ["_law_box_here"] [] := t.F__law_words_right.binds fun _ _ _ _ _ _ us hl => match us, hl with | [_], _ => rfl
theorem Txt.b_law (t : Txt K mg) : Binds K t.d_law ["_law_script"] [] := t.F_law.binds fun _ _ _ _ _ _ us hl => match us, hl with | [_], _ => rfl
theorem Txt.b_kw_parse_integer_1_high (t : Txt K mg) : KwD K t.d_parse_integer ["text", "low", "high"] 1 ["high"] (fun us ws => pick [0, 2, 1] us (ws ++ [.int 0 t.t_parse_integer_low])) := by
  obtain ⟨doc, pm, an, cdv, ct, e⟩ := t.Fk_parse_integer
  rw [e]
  exact ⟨fun s us ws X hu hw => match us, ws, hu, hw with | [_], [_], _, _ => BindsTo.of_looks fun M => KwChain.looks X (l := [("low", .int 0 t.t_parse_integer_low)]) (List.forall_mem_cons.mpr ⟨t.kd_parse_integer_low, fun q hq => (by cases hq)⟩) ⟨_, _, _, _, _, _, rfl, rfl, rfl⟩⟩
theorem Txt.b_kw_split_words_1_ (t : Txt K mg) : KwD K t.d_split_words ["text", "separator"] 1 [] (fun us ws => pick [0, 1] us (ws ++ [.str " " t.t_split_words_separator])) := by
  obtain ⟨doc, pm, an, cdv, ct, e⟩ := t.Fk_split_words
  rw [e]
  exact ⟨fun s us ws X hu hw => match us, ws, hu, hw with | [_], [], _, _ => BindsTo.of_looks fun M => KwChain.looks X (l := [("separator", .str " " t.t_split_words_separator)]) (List.forall_mem_cons.mpr ⟨t.kd_split_words_separator, fun q hq => (by cases hq)⟩) ⟨_, _, _, _, _, _, rfl, rfl, rfl⟩⟩
abbrev kw_parse_integer_1_low_high {α : Type} : List α → List α → List α := pick [0, 1, 2]
theorem rel_kw_parse_integer_1_low_high : RelG (@kw_parse_integer_1_low_high) := pick_rel [0, 1, 2]
theorem Txt.b_kw_parse_integer_1_low_high (t : Txt K mg) : KwB K t.d_parse_integer ["text", "low", "high"] 1 ["low", "high"] (@kw_parse_integer_1_low_high) := by
  obtain ⟨oc, od, kV, doc, pm, an, cdv, ct, osl, e, lk, cd⟩ := t.F_parse_integer.ex
  rw [e]
  exact ⟨fun s us ws _ hu hw => match us, ws, hu, hw with | [_], [_, _], _, _ => .of_eq rfl⟩
theorem Txt.b_kw_parse_integer_1_ (t : Txt K mg) : KwD K t.d_parse_integer ["text", "low", "high"] 1 [] (fun us ws => pick [0, 1, 2] us (ws ++ [.int 0 t.t_parse_integer_low, .int 999999 t.t_parse_integer_high])) := by
  obtain ⟨doc, pm, an, cdv, ct, e⟩ := t.Fk_parse_integer
  rw [e]
  exact ⟨fun s us ws X hu hw => match us, ws, hu, hw with | [_], [], _, _ => BindsTo.of_looks fun M => KwChain.looks X (l := [("low", .int 0 t.t_parse_integer_low), ("high", .int 999999 t.t_parse_integer_high)]) (List.forall_mem_cons.mpr ⟨t.kd_parse_integer_low, List.forall_mem_cons.mpr ⟨t.kd_parse_integer_high, fun q hq => (by cases hq)⟩⟩) ⟨_, _, _, _, _, _, rfl, rfl, _, _, _, _, _, _, rfl, rfl, rfl⟩⟩
theorem Txt.b_kw_parse_integer_0_text_high (t : Txt K mg) : KwD K t.d_parse_integer ["text", "low", "high"] 0 ["text", "high"] (fun us ws => pick [0, 2, 1] us (ws ++ [.int 0 t.t_parse_integer_low])) := by
  obtain ⟨doc, pm, an, cdv, ct, e⟩ := t.Fk_parse_integer
  rw [e]
  exact ⟨fun s us ws X hu hw => match us, ws, hu, hw with | [], [_, _], _, _ => BindsTo.of_looks fun M => KwChain.looks X (l := [("low", .int 0 t.t_parse_integer_low)]) (List.forall_mem_cons.mpr ⟨t.kd_parse_integer_low, fun q hq => (by cases hq)⟩) ⟨_, _, _, _, _, _, rfl, rfl, rfl⟩⟩
theorem Txt.b_kw_parse_integer_1_low (t : Txt K mg) : KwD K t.d_parse_integer ["text", "low", "high"] 1 ["low"] (fun us ws => pick [0, 1, 2] us (ws ++ [.int 999999 t.t_parse_integer_high])) := by
  obtain ⟨doc, pm, an, cdv, ct, e⟩ := t.Fk_parse_integer
  rw [e]
  exact ⟨fun s us ws X hu hw => match us, ws, hu, hw with | [_], [_], _, _ => BindsTo.of_looks fun M => KwChain.looks X (l := [("high", .int 999999 t.t_parse_integer_high)]) (List.forall_mem_cons.mpr ⟨t.kd_parse_integer_high, fun q hq => (by cases hq)⟩) ⟨_, _, _, _, _, _, rfl, rfl, rfl⟩⟩
abbrev kw_split_words_1_separator {α : Type} : List α → List α → List α := pick [0, 1]
theorem rel_kw_split_words_1_separator : RelG (@kw_split_words_1_separator) := pick_rel [0, 1]
theorem Txt.b_kw_split_words_1_separator (t : Txt K mg) : KwB K t.d_split_words ["text", "separator"] 1 ["separator"] (@kw_split_words_1_separator) := by
  obtain ⟨oc, od, kV, doc, pm, an, cdv, ct, osl, e, lk, cd⟩ := t.F_split_words.ex
  rw [e]
  exact ⟨fun s us ws _ hu hw => match us, ws, hu, hw with | [_], [_], _, _ => .of_eq rfl⟩
abbrev kw_split_words_0_separator_text {α : Type} : List α → List α → List α := pick [1, 0]
theorem rel_kw_split_words_0_separator_text : RelG (@kw_split_words_0_separator_text) := pick_rel [1, 0]
theorem Txt.b_kw_split_words_0_separator_text (t : Txt K mg) : KwB K t.d_split_words ["text", "separator"] 0 ["separator", "text"] (@kw_split_words_0_separator_text) := by
  obtain ⟨oc, od, kV, doc, pm, an, cdv, ct, osl, e, lk, cd⟩ := t.F_split_words.ex
  rw [e]
  exact ⟨fun s us ws _ hu hw => match us, ws, hu, hw with | [], [_, _], _, _ => .of_eq rfl⟩
end
/-! ### the mirrors -/
def m__law_box : MF := callB 1 1 (retS (boxM (lstL (consM (fnM max2D (consM (pureM (.int 0)) (consM (opM (ii fun i j => some (iSub i j)) (varM 0) (opM (ii iPow) (pureM (.int 10)) (pureM (.int 18)))) (pureM [])))) (consM (opM (ii iMod) (varM 0) (pureM (.int 2147483629))) (consM (pureM (.int 0)) (pureM [])))))))
def m__law_cell : MF := callB 2 2 (seqS (ifS (isB (opM (ii fun i j => some (iLt i j)) (varM 1) (fnM lenD (consM (varM 0) (pureM []))))) (retS (opM ixD (varM 0) (varM 1))) (nextS)) (retS (opM addD (opM mulD (pureM (.int 15502133)) (varM 1)) (pureM (.int 599)))))
def m__law_take : MF := callB 4 2 (seqS (ifS (isB (opM (ii fun i j => some (iGt i j)) (opM ixD (varM 0) (pureM (.int 0))) (pureM (.int 0)))) (seqS (setS (opM (ii iMod) (opM ixD (varM 0) (pureM (.int 0))) (varM 1)) (setD 2)) (seqS (setS (opM (ii iDiv) (opM ixD (varM 0) (pureM (.int 0))) (varM 1)) (onN (subG (varM 0) (pureM (.int 0))))) (retS (varM 2)))) (nextS)) (seqS (setS (opM addD (opM ixD (varM 0) (pureM (.int 2))) (pureM (.int 1))) (onN (subG (varM 0) (pureM (.int 2))))) (seqS (setS (opM (ii iMod) (opM (ii iPow) (opM addD (opM addD (opM ixD (varM 0) (pureM (.int 1))) (opM mulD (pureM (.int 15502133)) (opM ixD (varM 0) (pureM (.int 2))))) (pureM (.int 599))) (pureM (.int 5))) (pureM (.int 2147483647))) (setD 3)) (seqS (setS (opM (ii iMod) (opM (ii iPow) (opM addD (varM 3) (opM mulD (pureM (.int 104723)) (opM ixD (varM 0) (pureM (.int 2))))) (pureM (.int 3))) (pureM (.int 2147483587))) (setD 3)) (retS (opM (ii iMod) (opM (ii iDiv) (varM 3) (pureM (.int 16))) (varM 1)))))))
def m_parse_integer : MF := callB 4 3 (seqS (ifS (orB (notB (truM (fnM (isiD kt) (consM (varM 0) (consM (pureM (.ty "str")) (pureM [])))))) (orB (notB (isB (chainM (ii fun i j => some (iLt i j)) (ii fun i j => some (iLe i j)) (pureM (.int 0)) (fnM lenD (consM (varM 0) (pureM []))) (pureM (.int 30))))) (isB (opM fNe (metM stripD (varM 0) (pureM (.str "0123456789"))) (pureM (.str "")))))) (retS (pureM .non)) (nextS)) (seqS (setS (fnM int2D (consM (varM 0) (pureM []))) (setD 3)) (retS (iteM (andB (isB (opM fEq (fnM strD (consM (varM 3) (pureM []))) (varM 0))) (isB (chainM (ii fun i j => some (iLe i j)) (ii fun i j => some (iLe i j)) (varM 1) (varM 3) (varM 2)))) (varM 3) (pureM .non)))))
def m_split_words : MF := callB 4 2 (seqS (ifS (orB (notB (truM (fnM (isiD kt) (consM (varM 0) (consM (pureM (.ty "str")) (pureM [])))))) (isB (opM (ii fun i j => some (iGt i j)) (metM countD (varM 0) (pureM (.str "\n"))) (pureM (.int 0))))) (retS (pureM .non)) (nextS)) (seqS (setS (boxM (splitL (varM 0) (varM 1))) (setD 2)) (retS (iteM (truM (fnM (boolsD fun bs => bs.all id) (consM (frzM (compWM [3] (wkL (varM 2)) (setD 3) (pureM true) (opM fNe (varM 3) (pureM (.str ""))))) (pureM [])))) (varM 2) (pureM .non)))))
def m__law_long_right : MF := callB 3 1 (seqS (parS 1 2 (consM (opM ixD (lstM (consM (pureM (.int 1333)) (consM (opM addD (pureM (.int 300)) (callM m__law_take (consM (varM 0) (consM (pureM (.int 1034)) (pureM []))))) (pureM [])))) (callM m__law_take (consM (varM 0) (consM (pureM (.int 2)) (pureM []))))) (consM (opM (ii fun i j => some (iSub i j)) (opM (ii iPow) (pureM (.int 10)) (pureM (.int 30))) (pureM (.int 1))) (pureM [])))) (seqS (ifS (isB (opM fNe (fnM reprD (consM (kwM m_parse_integer 1 1 (fun xs zs => pick [0, 2, 1] xs (zs ++ ([.int 0] : List D))) (consM (opM mulD (pureM (.str "9")) (pureM (.int 30))) (pureM [])) (consM (varM 2) (pureM []))) (pureM []))) (fnM reprD (consM (varM 2) (pureM []))))) (retS (pureM (.bl false))) (nextS)) (retS (andM (opM fEq (kwM m_split_words 1 0 (fun xs zs => pick [0, 1] xs (zs ++ ([.str " "] : List D))) (consM (opM addD (opM mulD (pureM (.str "ab ")) (varM 1)) (pureM (.str "a"))) (pureM [])) (pureM [])) (opM addD (opM mulD (lstM (consM (pureM (.str "ab")) (pureM []))) (varM 1)) (lstM (consM (pureM (.str "a")) (pureM []))))) (opM fIs (kwM m_split_words 1 0 (fun xs zs => pick [0, 1] xs (zs ++ ([.str " "] : List D))) (consM (opM mulD (pureM (.str "ab ")) (varM 1)) (pureM [])) (pureM [])) (pureM .non))))))
def m__law_digits : MF := callB 8 1 (seqS (setS (opM addD (pureM (.int 1)) (callM m__law_take (consM (varM 0) (consM (opM ixD (lstM (consM (pureM (.int 3)) (consM (pureM (.int 7)) (consM (pureM (.int 34)) (pureM []))))) (callM m__law_take (consM (varM 0) (consM (pureM (.int 3)) (pureM []))))) (pureM []))))) (setD 1)) (seqS (setS (metM joinD (pureM (.str "")) (frzM (compM [7] (rng1M (consM (varM 1) (pureM []))) (setD 7) (pureM true) (fnM strD (consM (callM m__law_take (consM (varM 0) (consM (pureM (.int 10)) (pureM [])))) (pureM [])))))) (setD 2)) (seqS (parS 3 4 (consM (callM m__law_take (consM (varM 0) (consM (pureM (.int 5)) (pureM [])))) (consM (callM m__law_take (consM (varM 0) (consM (varM 1) (pureM [])))) (pureM [])))) (seqS (ifS (isB (opM fEq (varM 3) (pureM (.int 0)))) (seqS (setS (pureM (.str " !\"#$&'()*+,-./0123456789:;<=>?@ABCDEFGHIJKLMNOPQRSTUVWXYZ[\\]^_`{|}~")) (setD 5)) (retS (opM addD (opM addD (sliceM (varM 2) (pureM none) (partM (varM 4))) (opM ixD (opM addD (varM 5) (pureM (.str "az\n"))) (callM m__law_take (consM (varM 0) (consM (pureM (.int 71)) (pureM [])))))) (sliceM (varM 2) (partM (opM addD (varM 4) (pureM (.int 1)))) (pureM none))))) (nextS)) (seqS (ifS (isB (opM fEq (varM 3) (pureM (.int 1)))) (seqS (setS (lstM (consM (pureM (.str "")) (consM (pureM (.str "0")) (consM (pureM (.str "00")) (consM (opM addD (pureM (.str "0")) (varM 2)) (consM (opM addD (varM 2) (pureM (.str " "))) (consM (opM addD (pureM (.str " ")) (varM 2)) (consM (opM addD (pureM (.str "-")) (varM 2)) (consM (opM addD (varM 2) (pureM (.str "\n"))) (consM (opM addD (pureM (.str "\n")) (varM 2)) (pureM []))))))))))) (setD 6)) (retS (opM ixD (varM 6) (callM m__law_take (consM (varM 0) (consM (pureM (.int 9)) (pureM []))))))) (nextS)) (retS (varM 2)))))))
def m__law_number : MF := callB 3 1 (seqS (ifS (orB (isB (opM fEq (varM 0) (pureM (.str "")))) (orB (isB (opM (ii fun i j => some (iGt i j)) (fnM lenD (consM (varM 0) (pureM []))) (pureM (.int 30)))) (isB (opM fNe (frzM (compM [2] (signsM (varM 0)) (setD 2) (isB (opM fNotIn (varM 2) (pureM (.str "0123456789")))) (varM 2))) (lstM (pureM [])))))) (retS (pureM .non)) (nextS)) (seqS (ifS (andB (isB (opM fEq (opM ixD (varM 0) (pureM (.int 0))) (pureM (.str "0")))) (isB (opM (ii fun i j => some (iGt i j)) (fnM lenD (consM (varM 0) (pureM []))) (pureM (.int 1))))) (retS (pureM .non)) (nextS)) (seqS (setS (pureM (.int 0)) (setD 1)) (seqS (forS (signsM (varM 0)) (setD 2) (setS (opM addD (opM mulD (pureM (.int 10)) (varM 1)) (metM indexD (pureM (.str "0123456789")) (varM 2))) (setD 1))) (retS (varM 1))))))
def m__law_within : MF := callB 3 3 (retS (iteM (andB (isB (opM fIsN (varM 0) (pureM .non))) (isB (chainM (ii fun i j => some (iLe i j)) (ii fun i j => some (iLe i j)) (varM 1) (varM 0) (varM 2)))) (varM 0) (pureM .non)))
def m__law_numbers_right : MF := callB 11 1 (seqS (setS (callM m__law_digits (consM (varM 0) (pureM []))) (setD 1)) (seqS (setS (callM m__law_number (consM (varM 1) (pureM []))) (setD 2)) (seqS (setS (iteM (isB (opM fIsN (varM 2) (pureM .non))) (fnM min2D (consM (varM 2) (consM (opM (ii fun i j => some (iSub i j)) (opM (ii iPow) (pureM (.int 10)) (pureM (.int 30))) (pureM (.int 5))) (pureM [])))) (pureM (.int 50))) (setD 3)) (seqS (setS (opM (ii fun i j => some (iSub i j)) (opM (ii iPow) (pureM (.int 10)) (pureM (.int 30))) (pureM (.int 1))) (setD 4)) (seqS (ifS (isB (opM fNe (fnM reprD (consM (kwM m_parse_integer 1 2 kw_parse_integer_1_low_high (consM (varM 1) (pureM [])) (consM (opM (ii fun i j => some (iSub i j)) (pureM (.int 0)) (varM 4)) (consM (varM 4) (pureM [])))) (pureM []))) (fnM reprD (consM (varM 2) (pureM []))))) (retS (pureM (.bl false))) (nextS)) (seqS (parS 5 6 (consM (opM addD (opM (ii fun i j => some (iSub i j)) (varM 3) (pureM (.int 2))) (callM m__law_take (consM (varM 0) (consM (pureM (.int 5)) (pureM []))))) (consM (opM addD (opM (ii fun i j => some (iSub i j)) (varM 3) (pureM (.int 2))) (callM m__law_take (consM (varM 0) (consM (pureM (.int 5)) (pureM []))))) (pureM [])))) (seqS (setS (lstM (consM (kwM m_parse_integer 1 0 (fun xs zs => pick [0, 1, 2] xs (zs ++ ([.int 0, .int 999999] : List D))) (consM (varM 1) (pureM [])) (pureM [])) (consM (kwM m_parse_integer 1 2 kw_parse_integer_1_low_high (consM (varM 1) (pureM [])) (consM (varM 5) (consM (varM 6) (pureM [])))) (consM (kwM m_parse_integer 0 2 (fun xs zs => pick [0, 2, 1] xs (zs ++ ([.int 0] : List D))) (pureM []) (consM (varM 1) (consM (varM 6) (pureM [])))) (pureM []))))) (setD 7)) (seqS (setS (lstM (consM (callM m__law_within (consM (varM 2) (consM (pureM (.int 0)) (consM (pureM (.int 999999)) (pureM []))))) (consM (callM m__law_within (consM (varM 2) (consM (varM 5) (consM (varM 6) (pureM []))))) (consM (callM m__law_within (consM (varM 2) (consM (pureM (.int 0)) (consM (varM 6) (pureM []))))) (pureM []))))) (setD 8)) (seqS (ifS (isB (opM fNe (fnM reprD (consM (varM 7) (pureM []))) (fnM reprD (consM (varM 8) (pureM []))))) (retS (pureM (.bl false))) (nextS)) (seqS (ifS (isB (opM fNe (fnM reprD (consM (kwM m_parse_integer 1 1 (fun xs zs => pick [0, 1, 2] xs (zs ++ ([.int 999999] : List D))) (consM (varM 1) (pureM [])) (consM (varM 5) (pureM []))) (pureM []))) (fnM reprD (consM (callM m__law_within (consM (varM 2) (consM (varM 5) (consM (pureM (.int 999999)) (pureM []))))) (pureM []))))) (retS (pureM (.bl false))) (nextS)) (seqS (forS (itemsM (lstM (consM (pureM (.int 0)) (consM (pureM (.int 1)) (consM (pureM (.int 9)) (consM (pureM (.int 10)) (consM (pureM (.int 999)) (consM (pureM (.int 1000)) (consM (pureM (.int 99999)) (consM (pureM (.int 100000)) (consM (pureM (.int 999999)) (consM (pureM (.int 1000000)) (consM (callM m__law_take (consM (varM 0) (consM (pureM (.int 1000000)) (pureM [])))) (pureM [])))))))))))))) (setD 2) (ifS (isB (opM fNe (fnM reprD (consM (kwM m_parse_integer 1 0 (fun xs zs => pick [0, 1, 2] xs (zs ++ ([.int 0, .int 999999] : List D))) (consM (fnM strD (consM (varM 2) (pureM []))) (pureM [])) (pureM [])) (pureM []))) (fnM reprD (consM (callM m__law_within (consM (varM 2) (consM (pureM (.int 0)) (consM (pureM (.int 999999)) (pureM []))))) (pureM []))))) (retS (pureM (.bl false))) (nextS))) (seqS (setS (lstM (consM (pureM .non) (consM (pureM (.bl true)) (consM (pureM (.int 7)) (consM (lstM (consM (pureM (.str "7")) (pureM []))) (consM (tupM (consM (pureM (.str "7")) (pureM []))) (consM (dct1M (pureM (.str "7")) (pureM (.int 7))) (consM (opM mulD (pureM (.str "7")) (pureM (.int 3000))) (consM (pureM (.str "")) (consM (excM "InvalidText" "value" (pureM (.str "7"))) (pureM []))))))))))) (setD 9)) (retS (opM fEq (frzM (compM [10] (itemsM (varM 9)) (setD 10) (isB (opM fIsN (kwM m_parse_integer 1 0 (fun xs zs => pick [0, 1, 2] xs (zs ++ ([.int 0, .int 999999] : List D))) (consM (varM 10) (pureM [])) (pureM [])) (pureM .non))) (varM 10))) (lstM (pureM []))))))))))))))))
def m__law_words : MF := callB 8 2 (seqS (setS (opM addD (pureM (.str "abcxyz")) (pureM (.str " !\"#$&'()*+,-./0123456789:;<=>?@ABCDEFGHIJKLMNOPQRSTUVWXYZ[\\]^_`{|}~"))) (setD 2)) (seqS (setS (opM mulD (varM 1) (fnM int2D (consM (opM fEq (callM m__law_take (consM (varM 0) (consM (pureM (.int 8)) (pureM [])))) (pureM (.int 0))) (pureM [])))) (setD 3)) (seqS (forS (rng1M (consM (opM addD (pureM (.int 1)) (callM m__law_take (consM (varM 0) (consM (pureM (.int 5)) (pureM []))))) (pureM []))) (setD 4) (seqS (setS (metM joinD (pureM (.str "")) (frzM (compM [7] (rng1M (consM (opM addD (pureM (.int 1)) (callM m__law_take (consM (varM 0) (consM (pureM (.int 6)) (pureM []))))) (pureM []))) (setD 7) (pureM true) (opM ixD (varM 2) (callM m__law_take (consM (varM 0) (consM (pureM (.int 74)) (pureM [])))))))) (setD 5)) (seqS (setS (opM ixD (lstM (consM (varM 1) (consM (varM 1) (consM (varM 1) (consM (varM 1) (consM (opM mulD (varM 1) (pureM (.int 2))) (consM (pureM (.str "\n")) (pureM [])))))))) (callM m__law_take (consM (varM 0) (consM (pureM (.int 6)) (pureM []))))) (setD 6)) (setS (opM addD (opM addD (varM 3) (opM mulD (varM 6) (fnM int2D (consM (opM (ii fun i j => some (iGt i j)) (varM 4) (pureM (.int 0))) (pureM []))))) (varM 5)) (setD 3))))) (retS (opM addD (varM 3) (opM ixD (lstM (consM (varM 1) (consM (pureM (.str "\n")) (consM (pureM (.str "")) (consM (pureM (.str "")) (consM (pureM (.str "")) (consM (pureM (.str "")) (pureM [])))))))) (callM m__law_take (consM (varM 0) (consM (pureM (.int 6)) (pureM []))))))))))
def m__law_parted : MF := callB 5 2 (seqS (parS 2 3 (consM (boxM (lstL (pureM []))) (consM (pureM (.str "")) (pureM [])))) (seqS (forS (signsM (opM addD (varM 0) (varM 1))) (setD 4) (ifS (isB (opM fEq (varM 4) (varM 1))) (seqS (exprS (celM appF (varM 2) (varM 3))) (setS (pureM (.str "")) (setD 3))) (setS (opM addD (varM 3) (varM 4)) (setD 3)))) (retS (iteM (orB (isB (opM fIn (pureM (.str "\n")) (varM 0))) (isB (opM fIn (pureM (.str "")) (varM 2)))) (pureM .non) (varM 2)))))
def m__law_words_right : MF := callB 8 1 (seqS (setS (pureM (.str " !\"#$&'()*+,-./0123456789:;<=>?@ABCDEFGHIJKLMNOPQRSTUVWXYZ[\\]^_`{|}~")) (setD 1)) (seqS (setS (opM ixD (opM addD (varM 1) (pureM (.str "az"))) (callM m__law_take (consM (varM 0) (consM (pureM (.int 70)) (pureM []))))) (setD 2)) (seqS (setS (callM m__law_words (consM (varM 0) (consM (varM 2) (pureM [])))) (setD 3)) (seqS (forS (rng1M (consM (pureM (.int 2)) (pureM []))) (setD 4) (seqS (setS (kwM m_split_words 1 1 kw_split_words_1_separator (consM (varM 3) (pureM [])) (consM (varM 2) (pureM []))) (setD 5)) (seqS (ifS (isB (opM fNe (fnM reprD (consM (varM 5) (pureM []))) (fnM reprD (consM (callM m__law_parted (consM (varM 3) (consM (varM 2) (pureM [])))) (pureM []))))) (retS (pureM (.bl false))) (nextS)) (ifS (isB (opM fIsN (varM 5) (pureM .non))) (exprS (celM appF (varM 5) (pureM (.str "late")))) (nextS))))) (seqS (ifS (isB (opM fNe (fnM reprD (consM (kwM m_split_words 1 0 (fun xs zs => pick [0, 1] xs (zs ++ ([.str " "] : List D))) (consM (varM 3) (pureM [])) (pureM [])) (pureM []))) (fnM reprD (consM (callM m__law_parted (consM (varM 3) (consM (pureM (.str " ")) (pureM [])))) (pureM []))))) (retS (pureM (.bl false))) (nextS)) (seqS (ifS (isB (opM fNe (kwM m_split_words 0 2 kw_split_words_0_separator_text (pureM []) (consM (varM 2) (consM (pureM (.str "m")) (pureM [])))) (lstM (consM (pureM (.str "m")) (pureM []))))) (retS (pureM (.bl false))) (nextS)) (seqS (ifS (isB (opM fNe (kwM m_split_words 1 1 kw_split_words_1_separator (consM (pureM (.str "a b+ c +d")) (pureM [])) (consM (pureM (.str "+")) (pureM []))) (lstM (consM (pureM (.str "a b")) (consM (pureM (.str " c ")) (consM (pureM (.str "d")) (pureM []))))))) (retS (pureM (.bl false))) (nextS)) (seqS (setS (lstM (consM (pureM .non) (consM (pureM (.bl true)) (consM (pureM (.int 3)) (consM (lstM (consM (pureM (.str "a")) (pureM []))) (consM (tupM (consM (pureM (.str "a")) (consM (pureM (.str "b")) (pureM [])))) (consM (dct1M (pureM (.str "a")) (pureM (.int 1))) (consM (pureM (.str "")) (consM (pureM (.str " ")) (consM (pureM (.str "\n")) (consM (excM "InvalidText" "value" (pureM (.str "a b"))) (pureM [])))))))))))) (setD 6)) (retS (opM fEq (frzM (compM [7] (itemsM (varM 6)) (setD 7) (isB (opM fIsN (kwM m_split_words 1 0 (fun xs zs => pick [0, 1] xs (zs ++ ([.str " "] : List D))) (consM (varM 7) (pureM [])) (pureM [])) (pureM .non))) (varM 7))) (lstM (pureM []))))))))))))
def m_law : MF := callB 4 1 (seqS (forS (rng1M (consM (fnM max2D (consM (pureM (.int 2)) (consM (fnM min2D (consM (pureM (.int 8)) (consM (fnM lenD (consM (varM 0) (pureM []))) (pureM [])))) (pureM [])))) (pureM []))) (setD 1) (seqS (setS (callM m__law_box (consM (callM m__law_cell (consM (varM 0) (consM (varM 1) (pureM [])))) (pureM []))) (setD 2)) (seqS (ifS (notB (truM (callM m__law_long_right (consM (varM 2) (pureM []))))) (retS (pureM (.bl false))) (nextS)) (forS (rng1M (consM (pureM (.int 3)) (pureM []))) (setD 3) (ifS (orB (notB (truM (callM m__law_numbers_right (consM (varM 2) (pureM []))))) (notB (truM (callM m__law_words_right (consM (varM 2) (pureM [])))))) (retS (pureM (.bl false))) (nextS)))))) (retS (pureM (.bl true))))
section
variable {P : Program} {w : World} {K : PySem.W.Frag} {mg : Str → Option Value} {base : Heap}
/-! ### the walks -/
theorem ok__law_box (t : Txt K mg) : FnG P w K mg base 1 t.f__law_box t.d__law_box ["_law_cell_here"] (SpM K mg 1 m__law_box) :=
  fnM_of (k := 0) t.F__law_box sc__law_box rfl fun cdv A outer s H E W hr hgd tk =>
    mss_one (ms_ret (me_box (mf_lst (ma_cons (me_callB (cf_max2 rfl) rfl t.n_max PyProof.Rows.Boot.«max» (ma_cons (me_int) (ma_cons (me_op opf_sub (me_var 0) (me_op opf_pow (me_int) (me_int))) (ma_nil)))) (ma_cons (me_op opf_mod (me_var 0) (me_int)) (ma_cons (me_int) (ma_nil)))))))
theorem ok__law_cell (t : Txt K mg) : FnG P w K mg base 1 t.f__law_cell t.d__law_cell ["_law_script", "_law_k"] (SpM K mg 2 m__law_cell) :=
  fnM_of (k := 0) t.F__law_cell sc__law_cell rfl fun cdv A outer s H E W hr hgd tk =>
    mss_cons (ms_if (mt_cmp opf_lt (me_var 1) (me_callB cf_len rfl t.n_len PyProof.Rows.Boot.«len» (ma_cons (me_var 0) (ma_nil)))) (mss_one (ms_ret (me_ix (me_var 0) (me_var 1)))) (mss_nil)) (mss_one (ms_ret (me_op opf_add (me_op opf_mul (me_int) (me_var 1)) (me_int))))
theorem ok__law_take (t : Txt K mg) : FnG P w K mg base 1 t.f__law_take t.d__law_take ["_law_box_here", "_law_many"] (SpM K mg 2 m__law_take) :=
  fnM_of (k := 0) t.F__law_take sc__law_take rfl fun cdv A outer s H E W hr hgd tk =>
    mss_cons (ms_if (mt_cmp opf_gt (me_ix (me_var 0) (me_int)) (me_int)) (mss_cons (ms_set (i := 2) sc__law_take.nd rfl (by first | exact Or.inl rfl | exact Or.inr rfl) (me_op opf_mod (me_ix (me_var 0) (me_int)) (me_var 1))) (mss_cons (ms_asg (me_op opf_div (me_ix (me_var 0) (me_int)) (me_var 1)) (mg_sub (W := W) (me_var 0) (me_int))) (mss_one (ms_ret (me_var 2))))) (mss_nil)) (mss_cons (ms_asg (me_op opf_add (me_ix (me_var 0) (me_int)) (me_int)) (mg_sub (W := W) (me_var 0) (me_int))) (mss_cons (ms_set (i := 3) sc__law_take.nd rfl (by first | exact Or.inl rfl | exact Or.inr rfl) (me_op opf_mod (me_op opf_pow (me_op opf_add (me_op opf_add (me_ix (me_var 0) (me_int)) (me_op opf_mul (me_int) (me_ix (me_var 0) (me_int)))) (me_int)) (me_int)) (me_int))) (mss_cons (ms_set (i := 3) sc__law_take.nd rfl (by first | exact Or.inl rfl | exact Or.inr rfl) (me_op opf_mod (me_op opf_pow (me_op opf_add (me_var 3) (me_op opf_mul (me_int) (me_ix (me_var 0) (me_int)))) (me_int)) (me_int))) (mss_one (ms_ret (me_op opf_mod (me_op opf_div (me_var 3) (me_int)) (me_var 1)))))))
theorem ok_parse_integer (t : Txt K mg) : FnG P w K mg base 1 t.f_parse_integer t.d_parse_integer ["text", "low", "high"] (SpM K mg 3 m_parse_integer) :=
  fnM_of (k := 0) t.F_parse_integer sc_parse_integer rfl fun cdv A outer s H E W hr hgd tk =>
    mss_cons (ms_if (mt_w (mw_or (mt_not (mt_tru (me_callB (cf_isi t.kit) rfl t.n_isinstance PyProof.Rows.Boot.«isinstance» (ma_cons (me_var 0) (ma_cons (me_ty rfl t.n_str PyProof.Rows.Boot.«str») (ma_nil)))))) (mw_or (mt_not (mt_chain opf_lt opf_le (me_int) (me_callB cf_len rfl t.n_len PyProof.Rows.Boot.«len» (ma_cons (me_var 0) (ma_nil))) (me_gI rfl t.c_MOST_DIGITS))) (mw_or1 (mt_cmp (opf_ne hr) (me_m1 mf_strip slot_strip ty_strip (me_var 0) (me_gS rfl t.c_DIGITS)) (me_str)))))) (mss_one (ms_ret (me_non))) (mss_nil)) (mss_cons (ms_set (i := 3) sc_parse_integer.nd rfl (by first | exact Or.inl rfl | exact Or.inr rfl) (me_callTy cf_int2 rfl t.n_int PyProof.Rows.Boot.«int» (ma_cons (me_var 0) (ma_nil)))) (mss_one (ms_ret (me_if (mt_w (mw_and (mt_cmp (opf_eq hr) (me_callTy cf_str rfl t.n_str PyProof.Rows.Boot.«str» (ma_cons (me_var 3) (ma_nil))) (me_var 0)) (mw_and1 (mt_chain opf_le opf_le (me_var 1) (me_var 3) (me_var 2))))) (me_var 3) (me_non)))))
theorem ok_split_words (t : Txt K mg) : FnG P w K mg base 1 t.f_split_words t.d_split_words ["text", "separator"] (SpM K mg 2 m_split_words) :=
  fnM_of (k := 0) t.F_split_words sc_split_words rfl fun cdv A outer s H E W hr hgd tk =>
    mss_cons (ms_if (mt_w (mw_or (mt_not (mt_tru (me_callB (cf_isi t.kit) rfl t.n_isinstance PyProof.Rows.Boot.«isinstance» (ma_cons (me_var 0) (ma_cons (me_ty rfl t.n_str PyProof.Rows.Boot.«str») (ma_nil)))))) (mw_or1 (mt_cmp opf_gt (me_m1 mf_count slot_count ty_count (me_var 0) (me_str)) (me_int))))) (mss_one (ms_ret (me_non))) (mss_nil)) (mss_cons (ms_set (i := 2) sc_split_words.nd rfl (by first | exact Or.inl rfl | exact Or.inr rfl) (me_box (mfl_split (me_var 0) (me_var 1)))) (mss_one (ms_ret (me_if (mt_tru (me_callB (cf_all rfl) rfl t.n_all PyProof.Rows.Boot.«all» (ma_cons (me_frz (me_lcW (own := [("word", 3)]) rfl sc_split_words.nd (mw_list (me_var 2)) (blkOk_by (N := ["text", "separator", "words", "word"]) (sc := defScope s_split_words) (by decide +kernel)) (fun _ _ _ _ _ => mgw_name (by decide) sc_split_words.nd rfl (by first | exact Or.inl rfl | exact Or.inr rfl)) (fun _ _ _ _ _ => mts_nil) (fun _ _ _ _ _ => me_cmp (opf_ne hr) (me_var 3) (me_str)))) (ma_nil)))) (me_var 2) (me_non)))))
theorem ok__law_long_right (t : Txt K mg) : FnG P w K mg base 2 t.f__law_long_right t.d__law_long_right ["_law_box_here"] (SpM K mg 1 m__law_long_right) :=
  fnM_of (k := 1) t.F__law_long_right sc__law_long_right rfl fun cdv A outer s H E W hr hgd tk =>
    mss_cons (ms_par (i := 1) (j := 2) rfl sc__law_long_right.nd rfl rfl (by decide) rfl rfl (ma_cons (me_ix (me_lst (ma_cons (me_int) (ma_cons (me_op opf_add (me_int) (me_call (ok__law_take t) (fun _ _ => callB_len) (hr.mono (by decide)) hgd tk rfl t.g__law_take t.k__law_take t.b__law_take (ma_cons (me_var 0) (ma_cons (me_int) (ma_nil))))) (ma_nil)))) (me_call (ok__law_take t) (fun _ _ => callB_len) (hr.mono (by decide)) hgd tk rfl t.g__law_take t.k__law_take t.b__law_take (ma_cons (me_var 0) (ma_cons (me_int) (ma_nil))))) (ma_cons (me_op opf_sub (me_op opf_pow (me_int) (me_int)) (me_int)) (ma_nil))) rfl) (mss_cons (ms_if (mt_cmp (opf_ne hr) (me_callB (cf_repr hr hgd) rfl t.n_repr PyProof.Rows.Boot.«repr» (ma_cons (me_callD (dV := [.int 0]) (ok_parse_integer t) (fun _ _ => callB_len) (hr.mono (by decide)) hgd tk rfl t.g_parse_integer t.k_parse_integer t.b_kw_parse_integer_1_high (.cons ⟨_, rfl⟩ .nil) (fun _ _ => ⟨_, _, rfl, rfl, rfl⟩) (ma_cons (me_op opf_mul (me_str) (me_int)) (ma_nil)) (mk_cons (me_var 2) (mk_nil))) (ma_nil))) (me_callB (cf_repr hr hgd) rfl t.n_repr PyProof.Rows.Boot.«repr» (ma_cons (me_var 2) (ma_nil)))) (mss_one (ms_ret (me_bl))) (mss_nil)) (mss_one (ms_ret (me_and (me_cmp (opf_eq hr) (me_callD (dV := [.str " "]) (ok_split_words t) (fun _ _ => callB_len) (hr.mono (by decide)) hgd tk rfl t.g_split_words t.k_split_words t.b_kw_split_words_1_ (.cons ⟨_, rfl⟩ .nil) (fun _ _ => ⟨_, _, rfl, rfl, rfl⟩) (ma_cons (me_op opf_add (me_op opf_mul (me_str) (me_var 1)) (me_str)) (ma_nil)) (mk_nil)) (me_op opf_add (me_op opf_mul (me_lst (ma_cons (me_str) (ma_nil))) (me_var 1)) (me_lst (ma_cons (me_str) (ma_nil))))) (me_one (me_cmp opf_is (me_callD (dV := [.str " "]) (ok_split_words t) (fun _ _ => callB_len) (hr.mono (by decide)) hgd tk rfl t.g_split_words t.k_split_words t.b_kw_split_words_1_ (.cons ⟨_, rfl⟩ .nil) (fun _ _ => ⟨_, _, rfl, rfl, rfl⟩) (ma_cons (me_op opf_mul (me_str) (me_var 1)) (ma_nil)) (mk_nil)) (me_non)))))))
theorem ok__law_digits (t : Txt K mg) : FnG P w K mg base 2 t.f__law_digits t.d__law_digits ["_law_box_here"] (SpM K mg 1 m__law_digits) :=
  fnM_of (k := 1) t.F__law_digits sc__law_digits rfl fun cdv A outer s H E W hr hgd tk =>
    mss_cons (ms_set (i := 1) sc__law_digits.nd rfl (by first | exact Or.inl rfl | exact Or.inr rfl) (me_op opf_add (me_int) (me_call (ok__law_take t) (fun _ _ => callB_len) (hr.mono (by decide)) hgd tk rfl t.g__law_take t.k__law_take t.b__law_take (ma_cons (me_var 0) (ma_cons (me_ix (me_lst (ma_cons (me_int) (ma_cons (me_int) (ma_cons (me_int) (ma_nil))))) (me_call (ok__law_take t) (fun _ _ => callB_len) (hr.mono (by decide)) hgd tk rfl t.g__law_take t.k__law_take t.b__law_take (ma_cons (me_var 0) (ma_cons (me_int) (ma_nil))))) (ma_nil)))))) (mss_cons (ms_set (i := 2) sc__law_digits.nd rfl (by first | exact Or.inl rfl | exact Or.inr rfl) (me_m1 mf_join slot_join ty_join (me_str) (me_frz (me_lc (own := [("_law_k", 7)]) rfl sc__law_digits.nd (mi_rng1 rfl t.n_range (ma_cons (me_var 1) (ma_nil))) (blkOk_by (N := ["_law_box_here", "_law_many", "_law_found", "_law_way", "_law_at", "_law_signs", "_law_some", "_law_k"]) (sc := defScope s__law_digits) (by decide +kernel)) (fun _ _ _ _ _ => mgw_name (by decide) sc__law_digits.nd rfl (by first | exact Or.inl rfl | exact Or.inr rfl)) (fun _ _ _ _ _ => mts_nil) (fun _ _ _ _ _ => me_callTy cf_str rfl t.n_str PyProof.Rows.Boot.«str» (ma_cons (me_call (ok__law_take t) (fun _ _ => callB_len) (hr.mono (by decide)) hgd takes0 rfl t.g__law_take t.k__law_take t.b__law_take (ma_cons (me_var 0) (ma_cons (me_int) (ma_nil)))) (ma_nil))))))) (mss_cons (ms_par (i := 3) (j := 4) rfl sc__law_digits.nd rfl rfl (by decide) rfl rfl (ma_cons (me_call (ok__law_take t) (fun _ _ => callB_len) (hr.mono (by decide)) hgd tk rfl t.g__law_take t.k__law_take t.b__law_take (ma_cons (me_var 0) (ma_cons (me_int) (ma_nil)))) (ma_cons (me_call (ok__law_take t) (fun _ _ => callB_len) (hr.mono (by decide)) hgd tk rfl t.g__law_take t.k__law_take t.b__law_take (ma_cons (me_var 0) (ma_cons (me_var 1) (ma_nil)))) (ma_nil))) rfl) (mss_cons (ms_if (mt_cmp (opf_eq hr) (me_var 3) (me_int)) (mss_cons (ms_set (i := 5) sc__law_digits.nd rfl (by first | exact Or.inl rfl | exact Or.inr rfl) (me_str)) (mss_one (ms_ret (me_op opf_add (me_op opf_add (me_slice (me_var 2) (mp_none) (mp_some (me_var 4))) (me_ix (me_op opf_add (me_var 5) (me_str)) (me_call (ok__law_take t) (fun _ _ => callB_len) (hr.mono (by decide)) hgd tk rfl t.g__law_take t.k__law_take t.b__law_take (ma_cons (me_var 0) (ma_cons (me_int) (ma_nil)))))) (me_slice (me_var 2) (mp_some (me_op opf_add (me_var 4) (me_int))) (mp_none)))))) (mss_nil)) (mss_cons (ms_if (mt_cmp (opf_eq hr) (me_var 3) (me_int)) (mss_cons (ms_set (i := 6) sc__law_digits.nd rfl (by first | exact Or.inl rfl | exact Or.inr rfl) (me_lst (ma_cons (me_str) (ma_cons (me_str) (ma_cons (me_str) (ma_cons (me_op opf_add (me_str) (me_var 2)) (ma_cons (me_op opf_add (me_var 2) (me_str)) (ma_cons (me_op opf_add (me_str) (me_var 2)) (ma_cons (me_op opf_add (me_str) (me_var 2)) (ma_cons (me_op opf_add (me_var 2) (me_str)) (ma_cons (me_op opf_add (me_str) (me_var 2)) (ma_nil)))))))))))) (mss_one (ms_ret (me_ix (me_var 6) (me_call (ok__law_take t) (fun _ _ => callB_len) (hr.mono (by decide)) hgd tk rfl t.g__law_take t.k__law_take t.b__law_take (ma_cons (me_var 0) (ma_cons (me_int) (ma_nil)))))))) (mss_nil)) (mss_one (ms_ret (me_var 2)))))))
theorem ok__law_number (t : Txt K mg) : FnG P w K mg base 1 t.f__law_number t.d__law_number ["_law_line"] (SpM K mg 1 m__law_number) :=
  fnM_of (k := 0) t.F__law_number sc__law_number rfl fun cdv A outer s H E W hr hgd tk =>
    mss_cons (ms_if (mt_w (mw_or (mt_cmp (opf_eq hr) (me_var 0) (me_str)) (mw_or (mt_cmp opf_gt (me_callB cf_len rfl t.n_len PyProof.Rows.Boot.«len» (ma_cons (me_var 0) (ma_nil))) (me_int)) (mw_or1 (mt_cmp (opf_ne hr) (me_frz (me_lc (own := [("_law_sign", 2)]) rfl sc__law_number.nd (mi_str (me_var 0)) (blkOk_by (N := ["_law_line", "_law_number_here", "_law_sign"]) (sc := defScope s__law_number) (by decide +kernel)) (fun _ _ _ _ _ => mgw_name (by decide) sc__law_number.nd rfl (by first | exact Or.inl rfl | exact Or.inr rfl)) (fun _ _ _ _ _ => mts_one (mt_cmp (opf_notIn hr) (me_var 2) (me_str))) (fun _ _ _ _ _ => me_var 2))) (me_lst (ma_nil))))))) (mss_one (ms_ret (me_non))) (mss_nil)) (mss_cons (ms_if (mt_w (mw_and (mt_cmp (opf_eq hr) (me_ix (me_var 0) (me_int)) (me_str)) (mw_and1 (mt_cmp opf_gt (me_callB cf_len rfl t.n_len PyProof.Rows.Boot.«len» (ma_cons (me_var 0) (ma_nil))) (me_int))))) (mss_one (ms_ret (me_non))) (mss_nil)) (mss_cons (ms_set (i := 1) sc__law_number.nd rfl (by first | exact Or.inl rfl | exact Or.inr rfl) (me_int)) (mss_cons (ms_for (passes_of rfl) rfl (mi_str (me_var 0)) (mg_name (i := 2) sc__law_number.nd rfl (by first | exact Or.inl rfl | exact Or.inr rfl)) (mss_one (ms_set (i := 1) sc__law_number.nd rfl (by first | exact Or.inl rfl | exact Or.inr rfl) (me_op opf_add (me_op opf_mul (me_int) (me_var 1)) (me_m1 mf_index slot_index ty_index (me_str) (me_var 2)))))) (mss_one (ms_ret (me_var 1))))))
theorem ok__law_within (t : Txt K mg) : FnG P w K mg base 1 t.f__law_within t.d__law_within ["_law_number_here", "_law_least", "_law_most"] (SpM K mg 3 m__law_within) :=
  fnM_of (k := 0) t.F__law_within sc__law_within rfl fun cdv A outer s H E W hr hgd tk =>
    mss_one (ms_ret (me_if (mt_w (mw_and (mt_cmp opf_isN (me_var 0) (me_non)) (mw_and1 (mt_chain opf_le opf_le (me_var 1) (me_var 0) (me_var 2))))) (me_var 0) (me_non)))
theorem ok__law_numbers_right (t : Txt K mg) : FnG P w K mg base 3 t.f__law_numbers_right t.d__law_numbers_right ["_law_box_here"] (SpM K mg 1 m__law_numbers_right) :=
  fnM_of (k := 2) t.F__law_numbers_right sc__law_numbers_right rfl fun cdv A outer s H E W hr hgd tk =>
    mss_cons (ms_set (i := 1) sc__law_numbers_right.nd rfl (by first | exact Or.inl rfl | exact Or.inr rfl) (me_call (ok__law_digits t) (fun _ _ => callB_len) (hr.mono (by decide)) hgd tk rfl t.g__law_digits t.k__law_digits t.b__law_digits (ma_cons (me_var 0) (ma_nil)))) (mss_cons (ms_set (i := 2) sc__law_numbers_right.nd rfl (by first | exact Or.inl rfl | exact Or.inr rfl) (me_call (ok__law_number t) (fun _ _ => callB_len) (hr.mono (by decide)) hgd tk rfl t.g__law_number t.k__law_number t.b__law_number (ma_cons (me_var 1) (ma_nil)))) (mss_cons (ms_set (i := 3) sc__law_numbers_right.nd rfl (by first | exact Or.inl rfl | exact Or.inr rfl) (me_if (mt_cmp opf_isN (me_var 2) (me_non)) (me_callB (cf_min2 rfl) rfl t.n_min PyProof.Rows.Boot.«min» (ma_cons (me_var 2) (ma_cons (me_op opf_sub (me_op opf_pow (me_int) (me_int)) (me_int)) (ma_nil)))) (me_int))) (mss_cons (ms_set (i := 4) sc__law_numbers_right.nd rfl (by first | exact Or.inl rfl | exact Or.inr rfl) (me_op opf_sub (me_op opf_pow (me_int) (me_int)) (me_int))) (mss_cons (ms_if (mt_cmp (opf_ne hr) (me_callB (cf_repr hr hgd) rfl t.n_repr PyProof.Rows.Boot.«repr» (ma_cons (me_callK (ok_parse_integer t) (fun _ _ => callB_len) (hr.mono (by decide)) hgd tk rfl t.g_parse_integer t.k_parse_integer t.b_kw_parse_integer_1_low_high rel_kw_parse_integer_1_low_high (ma_cons (me_var 1) (ma_nil)) (mk_cons (me_op opf_sub (me_int) (me_var 4)) (mk_cons (me_var 4) (mk_nil)))) (ma_nil))) (me_callB (cf_repr hr hgd) rfl t.n_repr PyProof.Rows.Boot.«repr» (ma_cons (me_var 2) (ma_nil)))) (mss_one (ms_ret (me_bl))) (mss_nil)) (mss_cons (ms_par (i := 5) (j := 6) rfl sc__law_numbers_right.nd rfl rfl (by decide) rfl rfl (ma_cons (me_op opf_add (me_op opf_sub (me_var 3) (me_int)) (me_call (ok__law_take t) (fun _ _ => callB_len) (hr.mono (by decide)) hgd tk rfl t.g__law_take t.k__law_take t.b__law_take (ma_cons (me_var 0) (ma_cons (me_int) (ma_nil))))) (ma_cons (me_op opf_add (me_op opf_sub (me_var 3) (me_int)) (me_call (ok__law_take t) (fun _ _ => callB_len) (hr.mono (by decide)) hgd tk rfl t.g__law_take t.k__law_take t.b__law_take (ma_cons (me_var 0) (ma_cons (me_int) (ma_nil))))) (ma_nil))) rfl) (mss_cons (ms_set (i := 7) sc__law_numbers_right.nd rfl (by first | exact Or.inl rfl | exact Or.inr rfl) (me_lst (ma_cons (me_callD (dV := [.int 0, .int 999999]) (ok_parse_integer t) (fun _ _ => callB_len) (hr.mono (by decide)) hgd tk rfl t.g_parse_integer t.k_parse_integer t.b_kw_parse_integer_1_ (.cons ⟨_, rfl⟩ (.cons ⟨_, rfl⟩ .nil)) (fun _ _ => ⟨_, _, rfl, rfl, _, _, rfl, rfl, rfl⟩) (ma_cons (me_var 1) (ma_nil)) (mk_nil)) (ma_cons (me_callK (ok_parse_integer t) (fun _ _ => callB_len) (hr.mono (by decide)) hgd tk rfl t.g_parse_integer t.k_parse_integer t.b_kw_parse_integer_1_low_high rel_kw_parse_integer_1_low_high (ma_cons (me_var 1) (ma_nil)) (mk_cons (me_var 5) (mk_cons (me_var 6) (mk_nil)))) (ma_cons (me_callD0 (dV := [.int 0]) (ok_parse_integer t) (fun _ _ => callB_len) (hr.mono (by decide)) hgd tk rfl t.g_parse_integer t.k_parse_integer t.b_kw_parse_integer_0_text_high (.cons ⟨_, rfl⟩ .nil) (fun _ _ => ⟨_, _, rfl, rfl, rfl⟩) (mk_cons (me_var 1) (mk_cons (me_var 6) (mk_nil)))) (ma_nil)))))) (mss_cons (ms_set (i := 8) sc__law_numbers_right.nd rfl (by first | exact Or.inl rfl | exact Or.inr rfl) (me_lst (ma_cons (me_call (ok__law_within t) (fun _ _ => callB_len) (hr.mono (by decide)) hgd tk rfl t.g__law_within t.k__law_within t.b__law_within (ma_cons (me_var 2) (ma_cons (me_int) (ma_cons (me_int) (ma_nil))))) (ma_cons (me_call (ok__law_within t) (fun _ _ => callB_len) (hr.mono (by decide)) hgd tk rfl t.g__law_within t.k__law_within t.b__law_within (ma_cons (me_var 2) (ma_cons (me_var 5) (ma_cons (me_var 6) (ma_nil))))) (ma_cons (me_call (ok__law_within t) (fun _ _ => callB_len) (hr.mono (by decide)) hgd tk rfl t.g__law_within t.k__law_within t.b__law_within (ma_cons (me_var 2) (ma_cons (me_int) (ma_cons (me_var 6) (ma_nil))))) (ma_nil)))))) (mss_cons (ms_if (mt_cmp (opf_ne hr) (me_callB (cf_repr hr hgd) rfl t.n_repr PyProof.Rows.Boot.«repr» (ma_cons (me_var 7) (ma_nil))) (me_callB (cf_repr hr hgd) rfl t.n_repr PyProof.Rows.Boot.«repr» (ma_cons (me_var 8) (ma_nil)))) (mss_one (ms_ret (me_bl))) (mss_nil)) (mss_cons (ms_if (mt_cmp (opf_ne hr) (me_callB (cf_repr hr hgd) rfl t.n_repr PyProof.Rows.Boot.«repr» (ma_cons (me_callD (dV := [.int 999999]) (ok_parse_integer t) (fun _ _ => callB_len) (hr.mono (by decide)) hgd tk rfl t.g_parse_integer t.k_parse_integer t.b_kw_parse_integer_1_low (.cons ⟨_, rfl⟩ .nil) (fun _ _ => ⟨_, _, rfl, rfl, rfl⟩) (ma_cons (me_var 1) (ma_nil)) (mk_cons (me_var 5) (mk_nil))) (ma_nil))) (me_callB (cf_repr hr hgd) rfl t.n_repr PyProof.Rows.Boot.«repr» (ma_cons (me_call (ok__law_within t) (fun _ _ => callB_len) (hr.mono (by decide)) hgd tk rfl t.g__law_within t.k__law_within t.b__law_within (ma_cons (me_var 2) (ma_cons (me_var 5) (ma_cons (me_int) (ma_nil))))) (ma_nil)))) (mss_one (ms_ret (me_bl))) (mss_nil)) (mss_cons (ms_for (passes_of rfl) rfl (mi_list (me_lst (ma_cons (me_int) (ma_cons (me_int) (ma_cons (me_int) (ma_cons (me_int) (ma_cons (me_int) (ma_cons (me_int) (ma_cons (me_int) (ma_cons (me_int) (ma_cons (me_int) (ma_cons (me_int) (ma_cons (me_call (ok__law_take t) (fun _ _ => callB_len) (hr.mono (by decide)) hgd tk rfl t.g__law_take t.k__law_take t.b__law_take (ma_cons (me_var 0) (ma_cons (me_int) (ma_nil)))) (ma_nil)))))))))))))) (mg_name (i := 2) sc__law_numbers_right.nd rfl (by first | exact Or.inl rfl | exact Or.inr rfl)) (mss_one (ms_if (mt_cmp (opf_ne hr) (me_callB (cf_repr hr hgd) rfl t.n_repr PyProof.Rows.Boot.«repr» (ma_cons (me_callD (dV := [.int 0, .int 999999]) (ok_parse_integer t) (fun _ _ => callB_len) (hr.mono (by decide)) hgd tk rfl t.g_parse_integer t.k_parse_integer t.b_kw_parse_integer_1_ (.cons ⟨_, rfl⟩ (.cons ⟨_, rfl⟩ .nil)) (fun _ _ => ⟨_, _, rfl, rfl, _, _, rfl, rfl, rfl⟩) (ma_cons (me_callTy cf_str rfl t.n_str PyProof.Rows.Boot.«str» (ma_cons (me_var 2) (ma_nil))) (ma_nil)) (mk_nil)) (ma_nil))) (me_callB (cf_repr hr hgd) rfl t.n_repr PyProof.Rows.Boot.«repr» (ma_cons (me_call (ok__law_within t) (fun _ _ => callB_len) (hr.mono (by decide)) hgd tk rfl t.g__law_within t.k__law_within t.b__law_within (ma_cons (me_var 2) (ma_cons (me_int) (ma_cons (me_int) (ma_nil))))) (ma_nil)))) (mss_one (ms_ret (me_bl))) (mss_nil)))) (mss_cons (ms_set (i := 9) sc__law_numbers_right.nd rfl (by first | exact Or.inl rfl | exact Or.inr rfl) (me_lst (ma_cons (me_non) (ma_cons (me_bl) (ma_cons (me_int) (ma_cons (me_lst (ma_cons (me_str) (ma_nil))) (ma_cons (me_tup (ma_cons (me_str) (ma_nil))) (ma_cons (me_dct1 (me_str) (me_int)) (ma_cons (me_op opf_mul (me_str) (me_int)) (ma_cons (me_str) (ma_cons (me_exc (t.mk_InvalidText _) t.no_InvalidText t.g_InvalidText hr rfl (me_str)) (ma_nil)))))))))))) (mss_one (ms_ret (me_cmp (opf_eq hr) (me_frz (me_lc (own := [("_law_thing", 10)]) rfl sc__law_numbers_right.nd (mi_list (me_var 9)) (blkOk_by (N := ["_law_box_here", "_law_line", "_law_number_here", "_law_near", "_law_far", "_law_least", "_law_most", "_law_found", "_law_due", "_law_some", "_law_thing"]) (sc := defScope s__law_numbers_right) (by decide +kernel)) (fun _ _ _ _ _ => mgw_name (by decide) sc__law_numbers_right.nd rfl (by first | exact Or.inl rfl | exact Or.inr rfl)) (fun _ _ _ _ _ => mts_one (mt_cmp opf_isN (me_callD (dV := [.int 0, .int 999999]) (ok_parse_integer t) (fun _ _ => callB_len) (hr.mono (by decide)) hgd takes0 rfl t.g_parse_integer t.k_parse_integer t.b_kw_parse_integer_1_ (.cons ⟨_, rfl⟩ (.cons ⟨_, rfl⟩ .nil)) (fun _ _ => ⟨_, _, rfl, rfl, _, _, rfl, rfl, rfl⟩) (ma_cons (me_var 10) (ma_nil)) (mk_nil)) (me_non))) (fun _ _ _ _ _ => me_var 10))) (me_lst (ma_nil))))))))))))))))
theorem ok__law_words (t : Txt K mg) : FnG P w K mg base 2 t.f__law_words t.d__law_words ["_law_box_here", "_law_sign"] (SpM K mg 2 m__law_words) :=
  fnM_of (k := 1) t.F__law_words sc__law_words rfl fun cdv A outer s H E W hr hgd tk =>
    mss_cons (ms_set (i := 2) sc__law_words.nd rfl (by first | exact Or.inl rfl | exact Or.inr rfl) (me_op opf_add (me_str) (me_str))) (mss_cons (ms_set (i := 3) sc__law_words.nd rfl (by first | exact Or.inl rfl | exact Or.inr rfl) (me_op opf_mul (me_var 1) (me_callTy cf_int2 rfl t.n_int PyProof.Rows.Boot.«int» (ma_cons (me_cmp (opf_eq hr) (me_call (ok__law_take t) (fun _ _ => callB_len) (hr.mono (by decide)) hgd tk rfl t.g__law_take t.k__law_take t.b__law_take (ma_cons (me_var 0) (ma_cons (me_int) (ma_nil)))) (me_int)) (ma_nil))))) (mss_cons (ms_for (passes_of rfl) rfl (mi_rng1 rfl t.n_range (ma_cons (me_op opf_add (me_int) (me_call (ok__law_take t) (fun _ _ => callB_len) (hr.mono (by decide)) hgd tk rfl t.g__law_take t.k__law_take t.b__law_take (ma_cons (me_var 0) (ma_cons (me_int) (ma_nil))))) (ma_nil))) (mg_name (i := 4) sc__law_words.nd rfl (by first | exact Or.inl rfl | exact Or.inr rfl)) (mss_cons (ms_set (i := 5) sc__law_words.nd rfl (by first | exact Or.inl rfl | exact Or.inr rfl) (me_m1 mf_join slot_join ty_join (me_str) (me_frz (me_lc (own := [("_law_j", 7)]) rfl sc__law_words.nd (mi_rng1 rfl t.n_range (ma_cons (me_op opf_add (me_int) (me_call (ok__law_take t) (fun _ _ => callB_len) (hr.mono (by decide)) hgd tk rfl t.g__law_take t.k__law_take t.b__law_take (ma_cons (me_var 0) (ma_cons (me_int) (ma_nil))))) (ma_nil))) (blkOk_by (N := ["_law_box_here", "_law_sign", "_law_letters", "_law_line", "_law_k", "_law_word", "_law_gap", "_law_j"]) (sc := defScope s__law_words) (by decide +kernel)) (fun _ _ _ _ _ => mgw_name (by decide) sc__law_words.nd rfl (by first | exact Or.inl rfl | exact Or.inr rfl)) (fun _ _ _ _ _ => mts_nil) (fun _ _ _ _ _ => me_ix (me_var 2) (me_call (ok__law_take t) (fun _ _ => callB_len) (hr.mono (by decide)) hgd takes0 rfl t.g__law_take t.k__law_take t.b__law_take (ma_cons (me_var 0) (ma_cons (me_int) (ma_nil))))))))) (mss_cons (ms_set (i := 6) sc__law_words.nd rfl (by first | exact Or.inl rfl | exact Or.inr rfl) (me_ix (me_lst (ma_cons (me_var 1) (ma_cons (me_var 1) (ma_cons (me_var 1) (ma_cons (me_var 1) (ma_cons (me_op opf_mul (me_var 1) (me_int)) (ma_cons (me_str) (ma_nil)))))))) (me_call (ok__law_take t) (fun _ _ => callB_len) (hr.mono (by decide)) hgd tk rfl t.g__law_take t.k__law_take t.b__law_take (ma_cons (me_var 0) (ma_cons (me_int) (ma_nil)))))) (mss_one (ms_set (i := 3) sc__law_words.nd rfl (by first | exact Or.inl rfl | exact Or.inr rfl) (me_op opf_add (me_op opf_add (me_var 3) (me_op opf_mul (me_var 6) (me_callTy cf_int2 rfl t.n_int PyProof.Rows.Boot.«int» (ma_cons (me_cmp opf_gt (me_var 4) (me_int)) (ma_nil))))) (me_var 5))))))) (mss_one (ms_ret (me_op opf_add (me_var 3) (me_ix (me_lst (ma_cons (me_var 1) (ma_cons (me_str) (ma_cons (me_str) (ma_cons (me_str) (ma_cons (me_str) (ma_cons (me_str) (ma_nil)))))))) (me_call (ok__law_take t) (fun _ _ => callB_len) (hr.mono (by decide)) hgd tk rfl t.g__law_take t.k__law_take t.b__law_take (ma_cons (me_var 0) (ma_cons (me_int) (ma_nil))))))))))
theorem ok__law_parted (t : Txt K mg) : FnG P w K mg base 1 t.f__law_parted t.d__law_parted ["_law_line", "_law_sign"] (SpM K mg 2 m__law_parted) :=
  fnM_of (k := 0) t.F__law_parted sc__law_parted rfl fun cdv A outer s H E W hr hgd tk =>
    mss_cons (ms_par (i := 2) (j := 3) rfl sc__law_parted.nd rfl rfl (by decide) rfl rfl (ma_cons (me_box (mf_lst (ma_nil))) (ma_cons (me_str) (ma_nil))) rfl) (mss_cons (ms_for (passes_of rfl) rfl (mi_str (me_op opf_add (me_var 0) (me_var 1))) (mg_name (i := 4) sc__law_parted.nd rfl (by first | exact Or.inl rfl | exact Or.inr rfl)) (mss_one (ms_if (mt_cmp (opf_eq hr) (me_var 4) (me_var 1)) (mss_cons (ms_expr (me_append (me_var 2) (me_var 3))) (mss_one (ms_set (i := 3) sc__law_parted.nd rfl (by first | exact Or.inl rfl | exact Or.inr rfl) (me_str)))) (mss_one (ms_set (i := 3) sc__law_parted.nd rfl (by first | exact Or.inl rfl | exact Or.inr rfl) (me_op opf_add (me_var 3) (me_var 4))))))) (mss_one (ms_ret (me_if (mt_w (mw_or (mt_cmp (opf_in hr) (me_str) (me_var 0)) (mw_or1 (mt_cmp (opf_in hr) (me_str) (me_var 2))))) (me_non) (me_var 2)))))
theorem ok__law_words_right (t : Txt K mg) : FnG P w K mg base 3 t.f__law_words_right t.d__law_words_right ["_law_box_here"] (SpM K mg 1 m__law_words_right) :=
  fnM_of (k := 2) t.F__law_words_right sc__law_words_right rfl fun cdv A outer s H E W hr hgd tk =>
    mss_cons (ms_set (i := 1) sc__law_words_right.nd rfl (by first | exact Or.inl rfl | exact Or.inr rfl) (me_str)) (mss_cons (ms_set (i := 2) sc__law_words_right.nd rfl (by first | exact Or.inl rfl | exact Or.inr rfl) (me_ix (me_op opf_add (me_var 1) (me_str)) (me_call (ok__law_take t) (fun _ _ => callB_len) (hr.mono (by decide)) hgd tk rfl t.g__law_take t.k__law_take t.b__law_take (ma_cons (me_var 0) (ma_cons (me_int) (ma_nil)))))) (mss_cons (ms_set (i := 3) sc__law_words_right.nd rfl (by first | exact Or.inl rfl | exact Or.inr rfl) (me_call (ok__law_words t) (fun _ _ => callB_len) (hr.mono (by decide)) hgd tk rfl t.g__law_words t.k__law_words t.b__law_words (ma_cons (me_var 0) (ma_cons (me_var 2) (ma_nil))))) (mss_cons (ms_for (passes_of rfl) rfl (mi_rng1 rfl t.n_range (ma_cons (me_int) (ma_nil))) (mg_name (i := 4) sc__law_words_right.nd rfl (by first | exact Or.inl rfl | exact Or.inr rfl)) (mss_cons (ms_set (i := 5) sc__law_words_right.nd rfl (by first | exact Or.inl rfl | exact Or.inr rfl) (me_callK (ok_split_words t) (fun _ _ => callB_len) (hr.mono (by decide)) hgd tk rfl t.g_split_words t.k_split_words t.b_kw_split_words_1_separator rel_kw_split_words_1_separator (ma_cons (me_var 3) (ma_nil)) (mk_cons (me_var 2) (mk_nil)))) (mss_cons (ms_if (mt_cmp (opf_ne hr) (me_callB (cf_repr hr hgd) rfl t.n_repr PyProof.Rows.Boot.«repr» (ma_cons (me_var 5) (ma_nil))) (me_callB (cf_repr hr hgd) rfl t.n_repr PyProof.Rows.Boot.«repr» (ma_cons (me_call (ok__law_parted t) (fun _ _ => callB_len) (hr.mono (by decide)) hgd tk rfl t.g__law_parted t.k__law_parted t.b__law_parted (ma_cons (me_var 3) (ma_cons (me_var 2) (ma_nil)))) (ma_nil)))) (mss_one (ms_ret (me_bl))) (mss_nil)) (mss_one (ms_if (mt_cmp opf_isN (me_var 5) (me_non)) (mss_one (ms_expr (me_append (me_var 5) (me_str)))) (mss_nil)))))) (mss_cons (ms_if (mt_cmp (opf_ne hr) (me_callB (cf_repr hr hgd) rfl t.n_repr PyProof.Rows.Boot.«repr» (ma_cons (me_callD (dV := [.str " "]) (ok_split_words t) (fun _ _ => callB_len) (hr.mono (by decide)) hgd tk rfl t.g_split_words t.k_split_words t.b_kw_split_words_1_ (.cons ⟨_, rfl⟩ .nil) (fun _ _ => ⟨_, _, rfl, rfl, rfl⟩) (ma_cons (me_var 3) (ma_nil)) (mk_nil)) (ma_nil))) (me_callB (cf_repr hr hgd) rfl t.n_repr PyProof.Rows.Boot.«repr» (ma_cons (me_call (ok__law_parted t) (fun _ _ => callB_len) (hr.mono (by decide)) hgd tk rfl t.g__law_parted t.k__law_parted t.b__law_parted (ma_cons (me_var 3) (ma_cons (me_str) (ma_nil)))) (ma_nil)))) (mss_one (ms_ret (me_bl))) (mss_nil)) (mss_cons (ms_if (mt_cmp (opf_ne hr) (me_callK0 (ok_split_words t) (fun _ _ => callB_len) (hr.mono (by decide)) hgd tk rfl t.g_split_words t.k_split_words t.b_kw_split_words_0_separator_text rel_kw_split_words_0_separator_text (mk_cons (me_var 2) (mk_cons (me_str) (mk_nil)))) (me_lst (ma_cons (me_str) (ma_nil)))) (mss_one (ms_ret (me_bl))) (mss_nil)) (mss_cons (ms_if (mt_cmp (opf_ne hr) (me_callK (ok_split_words t) (fun _ _ => callB_len) (hr.mono (by decide)) hgd tk rfl t.g_split_words t.k_split_words t.b_kw_split_words_1_separator rel_kw_split_words_1_separator (ma_cons (me_str) (ma_nil)) (mk_cons (me_str) (mk_nil))) (me_lst (ma_cons (me_str) (ma_cons (me_str) (ma_cons (me_str) (ma_nil)))))) (mss_one (ms_ret (me_bl))) (mss_nil)) (mss_cons (ms_set (i := 6) sc__law_words_right.nd rfl (by first | exact Or.inl rfl | exact Or.inr rfl) (me_lst (ma_cons (me_non) (ma_cons (me_bl) (ma_cons (me_int) (ma_cons (me_lst (ma_cons (me_str) (ma_nil))) (ma_cons (me_tup (ma_cons (me_str) (ma_cons (me_str) (ma_nil)))) (ma_cons (me_dct1 (me_str) (me_int)) (ma_cons (me_str) (ma_cons (me_str) (ma_cons (me_str) (ma_cons (me_exc (t.mk_InvalidText _) t.no_InvalidText t.g_InvalidText hr rfl (me_str)) (ma_nil))))))))))))) (mss_one (ms_ret (me_cmp (opf_eq hr) (me_frz (me_lc (own := [("_law_thing", 7)]) rfl sc__law_words_right.nd (mi_list (me_var 6)) (blkOk_by (N := ["_law_box_here", "_law_signs", "_law_sign", "_law_line", "_law_lap", "_law_found", "_law_some", "_law_thing"]) (sc := defScope s__law_words_right) (by decide +kernel)) (fun _ _ _ _ _ => mgw_name (by decide) sc__law_words_right.nd rfl (by first | exact Or.inl rfl | exact Or.inr rfl)) (fun _ _ _ _ _ => mts_one (mt_cmp opf_isN (me_callD (dV := [.str " "]) (ok_split_words t) (fun _ _ => callB_len) (hr.mono (by decide)) hgd takes0 rfl t.g_split_words t.k_split_words t.b_kw_split_words_1_ (.cons ⟨_, rfl⟩ .nil) (fun _ _ => ⟨_, _, rfl, rfl, rfl⟩) (ma_cons (me_var 7) (ma_nil)) (mk_nil)) (me_non))) (fun _ _ _ _ _ => me_var 7))) (me_lst (ma_nil))))))))))))
theorem ok_law (t : Txt K mg) : FnG P w K mg base 4 t.f_law t.d_law ["_law_script"] (SpM K mg 1 m_law) :=
  fnM_of (k := 3) t.F_law sc_law rfl fun cdv A outer s H E W hr hgd tk =>
    mss_cons (ms_for (passes_of rfl) rfl (mi_rng1 rfl t.n_range (ma_cons (me_callB (cf_max2 rfl) rfl t.n_max PyProof.Rows.Boot.«max» (ma_cons (me_int) (ma_cons (me_callB (cf_min2 rfl) rfl t.n_min PyProof.Rows.Boot.«min» (ma_cons (me_int) (ma_cons (me_callB cf_len rfl t.n_len PyProof.Rows.Boot.«len» (ma_cons (me_var 0) (ma_nil))) (ma_nil)))) (ma_nil)))) (ma_nil))) (mg_name (i := 1) sc_law.nd rfl (by first | exact Or.inl rfl | exact Or.inr rfl)) (mss_cons (ms_set (i := 2) sc_law.nd rfl (by first | exact Or.inl rfl | exact Or.inr rfl) (me_call (ok__law_box t) (fun _ _ => callB_len) (hr.mono (by decide)) hgd tk rfl t.g__law_box t.k__law_box t.b__law_box (ma_cons (me_call (ok__law_cell t) (fun _ _ => callB_len) (hr.mono (by decide)) hgd tk rfl t.g__law_cell t.k__law_cell t.b__law_cell (ma_cons (me_var 0) (ma_cons (me_var 1) (ma_nil)))) (ma_nil)))) (mss_cons (ms_if (mt_not (mt_tru (me_call (ok__law_long_right t) (fun _ _ => callB_len) (hr.mono (by decide)) hgd tk rfl t.g__law_long_right t.k__law_long_right t.b__law_long_right (ma_cons (me_var 2) (ma_nil))))) (mss_one (ms_ret (me_bl))) (mss_nil)) (mss_one (ms_for (passes_of rfl) rfl (mi_rng1 rfl t.n_range (ma_cons (me_int) (ma_nil))) (mg_name (i := 3) sc_law.nd rfl (by first | exact Or.inl rfl | exact Or.inr rfl)) (mss_one (ms_if (mt_w (mw_or (mt_not (mt_tru (me_call (ok__law_numbers_right t) (fun _ _ => callB_len) (hr.mono (by decide)) hgd tk rfl t.g__law_numbers_right t.k__law_numbers_right t.b__law_numbers_right (ma_cons (me_var 2) (ma_nil))))) (mw_or1 (mt_not (mt_tru (me_call (ok__law_words_right t) (fun _ _ => callB_len) (hr.mono (by decide)) hgd tk rfl t.g__law_words_right t.k__law_words_right t.b__law_words_right (ma_cons (me_var 2) (ma_nil)))))))) (mss_one (ms_ret (me_bl))) (mss_nil)))))))) (mss_one (ms_ret (me_bl)))
theorem all_mk {l : PySem.W.OpenLaw} {w : World} {K : PySem.W.Frag} {h : Heap} {mg : Str → Option Value} {fa : Addr} (X : K.In h) (G : h.Ns mainGlobals mg) (hfa : mg "law" = some (.ref fa))
    {f0 : Addr} {od0 an0 : Option Addr} {sl0 : Array (Option Value)} {oc0 kV0 dc0 pm0 cd0 ct0 : Value}
    {f1 : Addr} {od1 an1 : Option Addr} {sl1 : Array (Option Value)} {oc1 kV1 dc1 pm1 cd1 ct1 : Value}
    {f2 : Addr} {od2 an2 : Option Addr} {sl2 : Array (Option Value)} {oc2 kV2 dc2 pm2 cd2 ct2 : Value}
    {f3 : Addr} {od3 an3 : Option Addr} {sl3 : Array (Option Value)} {oc3 dc3 pm3 cd3 ct3 : Value}
    {D3 : Addr}
    {t_parse_integer_low : Tok}
    {t_parse_integer_high : Tok}
    {f4 : Addr} {od4 an4 : Option Addr} {sl4 : Array (Option Value)} {oc4 dc4 pm4 cd4 ct4 : Value}
    {D4 : Addr}
    {t_split_words_separator : Tok}
    {f5 : Addr} {od5 an5 : Option Addr} {sl5 : Array (Option Value)} {oc5 kV5 dc5 pm5 cd5 ct5 : Value}
    {f6 : Addr} {od6 an6 : Option Addr} {sl6 : Array (Option Value)} {oc6 kV6 dc6 pm6 cd6 ct6 : Value}
    {f7 : Addr} {od7 an7 : Option Addr} {sl7 : Array (Option Value)} {oc7 kV7 dc7 pm7 cd7 ct7 : Value}
    {f8 : Addr} {od8 an8 : Option Addr} {sl8 : Array (Option Value)} {oc8 kV8 dc8 pm8 cd8 ct8 : Value}
    {f9 : Addr} {od9 an9 : Option Addr} {sl9 : Array (Option Value)} {oc9 kV9 dc9 pm9 cd9 ct9 : Value}
    {f10 : Addr} {od10 an10 : Option Addr} {sl10 : Array (Option Value)} {oc10 kV10 dc10 pm10 cd10 ct10 : Value}
    {f11 : Addr} {od11 an11 : Option Addr} {sl11 : Array (Option Value)} {oc11 kV11 dc11 pm11 cd11 ct11 : Value}
    {f12 : Addr} {od12 an12 : Option Addr} {sl12 : Array (Option Value)} {oc12 kV12 dc12 pm12 cd12 ct12 : Value}
    {f13 : Addr} {od13 an13 : Option Addr} {sl13 : Array (Option Value)} {oc13 kV13 dc13 pm13 cd13 ct13 : Value}
    {t_DIGITS : Tok}
    {t_MOST_DIGITS : Tok}
    {B_PlanError : Addr}
    {C_InvalidText fi_InvalidText N_InvalidText : Addr} {nm_InvalidText q_InvalidText : Str} {bs_InvalidText : List Value} {sn_InvalidText : List Str} {su_InvalidText : List Value} {ab_InvalidText : Bool} {co_InvalidText : Option Bool} {dd_InvalidText : Option Addr} {m0_InvalidText m1_InvalidText m2_InvalidText m3_InvalidText m5_InvalidText : Option Value} {od_InvalidText an_InvalidText : Option Addr} {sl_InvalidText : Array (Option Value)} {oc_InvalidText kV_InvalidText dc_InvalidText pm_InvalidText cd_InvalidText ct_InvalidText : Value}
    (a0 : PySem.W.nsIn K mainGlobals "_law_box" = some (some (.ref f0)))
    (l0 : K.lookup f0 = some ⟨oc0, od0, .func (PySem.W.fnOf "_law_box" "_law_box" (defArgs s__law_box) (defBody s__law_box) (defScope s__law_box) .none kV0 dc0 pm0 an0 cd0 ct0), sl0⟩)
    (c0 : PySem.W.codeIn K cd0 "_law_box" = true)
    (k0 : PySem.W.keepIn K (.ref f0) = true)
    (a1 : PySem.W.nsIn K mainGlobals "_law_cell" = some (some (.ref f1)))
    (l1 : K.lookup f1 = some ⟨oc1, od1, .func (PySem.W.fnOf "_law_cell" "_law_cell" (defArgs s__law_cell) (defBody s__law_cell) (defScope s__law_cell) .none kV1 dc1 pm1 an1 cd1 ct1), sl1⟩)
    (c1 : PySem.W.codeIn K cd1 "_law_cell" = true)
    (k1 : PySem.W.keepIn K (.ref f1) = true)
    (a2 : PySem.W.nsIn K mainGlobals "_law_take" = some (some (.ref f2)))
    (l2 : K.lookup f2 = some ⟨oc2, od2, .func (PySem.W.fnOf "_law_take" "_law_take" (defArgs s__law_take) (defBody s__law_take) (defScope s__law_take) .none kV2 dc2 pm2 an2 cd2 ct2), sl2⟩)
    (c2 : PySem.W.codeIn K cd2 "_law_take" = true)
    (k2 : PySem.W.keepIn K (.ref f2) = true)
    (a3 : PySem.W.nsIn K mainGlobals "parse_integer" = some (some (.ref f3)))
    (l3 : K.lookup f3 = some ⟨oc3, od3, .func (PySem.W.fnOf "parse_integer" "parse_integer" (defArgs s_parse_integer) (defBody s_parse_integer) (defScope s_parse_integer) .none (.ref D3) dc3 pm3 an3 cd3 ct3), sl3⟩)
    (c3 : PySem.W.codeIn K cd3 "parse_integer" = true)
    (k3 : PySem.W.keepIn K (.ref f3) = true)
    (kd_parse_integer_low : PySem.W.nsIn K D3 "low" = some (some (.int 0 t_parse_integer_low)))
    (kd_parse_integer_high : PySem.W.nsIn K D3 "high" = some (some (.int 999999 t_parse_integer_high)))
    (a4 : PySem.W.nsIn K mainGlobals "split_words" = some (some (.ref f4)))
    (l4 : K.lookup f4 = some ⟨oc4, od4, .func (PySem.W.fnOf "split_words" "split_words" (defArgs s_split_words) (defBody s_split_words) (defScope s_split_words) .none (.ref D4) dc4 pm4 an4 cd4 ct4), sl4⟩)
    (c4 : PySem.W.codeIn K cd4 "split_words" = true)
    (k4 : PySem.W.keepIn K (.ref f4) = true)
    (kd_split_words_separator : PySem.W.nsIn K D4 "separator" = some (some (.str " " t_split_words_separator)))
    (a5 : PySem.W.nsIn K mainGlobals "_law_long_right" = some (some (.ref f5)))
    (l5 : K.lookup f5 = some ⟨oc5, od5, .func (PySem.W.fnOf "_law_long_right" "_law_long_right" (defArgs s__law_long_right) (defBody s__law_long_right) (defScope s__law_long_right) .none kV5 dc5 pm5 an5 cd5 ct5), sl5⟩)
    (c5 : PySem.W.codeIn K cd5 "_law_long_right" = true)
    (k5 : PySem.W.keepIn K (.ref f5) = true)
    (a6 : PySem.W.nsIn K mainGlobals "_law_digits" = some (some (.ref f6)))
    (l6 : K.lookup f6 = some ⟨oc6, od6, .func (PySem.W.fnOf "_law_digits" "_law_digits" (defArgs s__law_digits) (defBody s__law_digits) (defScope s__law_digits) .none kV6 dc6 pm6 an6 cd6 ct6), sl6⟩)
    (c6 : PySem.W.codeIn K cd6 "_law_digits" = true)
    (k6 : PySem.W.keepIn K (.ref f6) = true)
    (a7 : PySem.W.nsIn K mainGlobals "_law_number" = some (some (.ref f7)))
    (l7 : K.lookup f7 = some ⟨oc7, od7, .func (PySem.W.fnOf "_law_number" "_law_number" (defArgs s__law_number) (defBody s__law_number) (defScope s__law_number) .none kV7 dc7 pm7 an7 cd7 ct7), sl7⟩)
    (c7 : PySem.W.codeIn K cd7 "_law_number" = true)
    (k7 : PySem.W.keepIn K (.ref f7) = true)
    (a8 : PySem.W.nsIn K mainGlobals "_law_within" = some (some (.ref f8)))
    (l8 : K.lookup f8 = some ⟨oc8, od8, .func (PySem.W.fnOf "_law_within" "_law_within" (defArgs s__law_within) (defBody s__law_within) (defScope s__law_within) .none kV8 dc8 pm8 an8 cd8 ct8), sl8⟩)
    (c8 : PySem.W.codeIn K cd8 "_law_within" = true)
    (k8 : PySem.W.keepIn K (.ref f8) = true)
    (a9 : PySem.W.nsIn K mainGlobals "_law_numbers_right" = some (some (.ref f9)))
    (l9 : K.lookup f9 = some ⟨oc9, od9, .func (PySem.W.fnOf "_law_numbers_right" "_law_numbers_right" (defArgs s__law_numbers_right) (defBody s__law_numbers_right) (defScope s__law_numbers_right) .none kV9 dc9 pm9 an9 cd9 ct9), sl9⟩)
    (c9 : PySem.W.codeIn K cd9 "_law_numbers_right" = true)
    (k9 : PySem.W.keepIn K (.ref f9) = true)
    (a10 : PySem.W.nsIn K mainGlobals "_law_words" = some (some (.ref f10)))
    (l10 : K.lookup f10 = some ⟨oc10, od10, .func (PySem.W.fnOf "_law_words" "_law_words" (defArgs s__law_words) (defBody s__law_words) (defScope s__law_words) .none kV10 dc10 pm10 an10 cd10 ct10), sl10⟩)
    (c10 : PySem.W.codeIn K cd10 "_law_words" = true)
    (k10 : PySem.W.keepIn K (.ref f10) = true)
    (a11 : PySem.W.nsIn K mainGlobals "_law_parted" = some (some (.ref f11)))
    (l11 : K.lookup f11 = some ⟨oc11, od11, .func (PySem.W.fnOf "_law_parted" "_law_parted" (defArgs s__law_parted) (defBody s__law_parted) (defScope s__law_parted) .none kV11 dc11 pm11 an11 cd11 ct11), sl11⟩)
    (c11 : PySem.W.codeIn K cd11 "_law_parted" = true)
    (k11 : PySem.W.keepIn K (.ref f11) = true)
    (a12 : PySem.W.nsIn K mainGlobals "_law_words_right" = some (some (.ref f12)))
    (l12 : K.lookup f12 = some ⟨oc12, od12, .func (PySem.W.fnOf "_law_words_right" "_law_words_right" (defArgs s__law_words_right) (defBody s__law_words_right) (defScope s__law_words_right) .none kV12 dc12 pm12 an12 cd12 ct12), sl12⟩)
    (c12 : PySem.W.codeIn K cd12 "_law_words_right" = true)
    (k12 : PySem.W.keepIn K (.ref f12) = true)
    (a13 : PySem.W.nsIn K mainGlobals "law" = some (some (.ref f13)))
    (l13 : K.lookup f13 = some ⟨oc13, od13, .func (PySem.W.fnOf "law" "law" (defArgs s_law) (defBody s_law) (defScope s_law) .none kV13 dc13 pm13 an13 cd13 ct13), sl13⟩)
    (c13 : PySem.W.codeIn K cd13 "law" = true)
    (k13 : PySem.W.keepIn K (.ref f13) = true)
    (c_DIGITS : PySem.W.nsIn K mainGlobals "DIGITS" = some (some (.str "0123456789" t_DIGITS)))
    (c_MOST_DIGITS : PySem.W.nsIn K mainGlobals "MOST_DIGITS" = some (some (.int 30 t_MOST_DIGITS)))
    (n_all : PySem.W.nsIn K mainGlobals "all" = some none)
    (n_int : PySem.W.nsIn K mainGlobals "int" = some none)
    (n_isinstance : PySem.W.nsIn K mainGlobals "isinstance" = some none)
    (n_len : PySem.W.nsIn K mainGlobals "len" = some none)
    (n_max : PySem.W.nsIn K mainGlobals "max" = some none)
    (n_min : PySem.W.nsIn K mainGlobals "min" = some none)
    (n_range : PySem.W.nsIn K mainGlobals "range" = some none)
    (n_repr : PySem.W.nsIn K mainGlobals "repr" = some none)
    (n_str : PySem.W.nsIn K mainGlobals "str" = some none)
    (ga_PlanError : PySem.W.nsIn K mainGlobals "PlanError" = some (some (.ref B_PlanError)))
    (gs_PlanError : PySem.W.specialIn K (.ref B_PlanError) "__getattribute__" = some (some (.builtin "type.__getattribute__")))
    (gr_PlanError : PySem.W.readsIn K B_PlanError (.type "type") = true)
    (gi_PlanError : PySem.W.findCls K (.ref B_PlanError) (.type "type") "__init__" = some (.val (.builtin "ValueError.__init__")))
    (g_InvalidText : PySem.W.nsIn K mainGlobals "InvalidText" = some (some (.ref C_InvalidText)))
    (xL_InvalidText : K.lookup C_InvalidText = some (excClassObj nm_InvalidText q_InvalidText C_InvalidText N_InvalidText bs_InvalidText [.ref B_PlanError, .type "ValueError", .type "Exception", .type "BaseException", .type "object"] true sn_InvalidText su_InvalidText ab_InvalidText co_InvalidText dd_InvalidText m0_InvalidText m1_InvalidText m2_InvalidText m3_InvalidText m5_InvalidText "ValueError.__new__"))
    (sa_InvalidText : PySem.W.findIn K (.ref C_InvalidText) "__setattr__" = some (some (.builtin "object.__setattr__")))
    (e1_InvalidText : PySem.W.subIn K (.ref C_InvalidText) (.type "BaseException") = some true)
    (e2_InvalidText : PySem.W.typeIn K (.ref C_InvalidText) = some (.type "type"))
    (e3_InvalidText : PySem.W.keepIn K (.ref C_InvalidText) = true)
    (h1_InvalidText : PySem.W.findIn K (.ref C_InvalidText) "__getattribute__" = some (some (.builtin "BaseException.__getattribute__")))
    (h2_InvalidText : PySem.W.findIn K (.ref C_InvalidText) "__getattr__" = some none)
    (h3_InvalidText : PySem.W.hasDictIn K C_InvalidText = true)
    (h4_InvalidText : PySem.W.findIn K (.ref C_InvalidText) "__class__" = some (some (.builtin "object.__class__")))
    (h5_InvalidText : PySem.W.specialIn K (.builtin "object.__class__") "__get__" = some (some (.builtin "getset_descriptor.__get__")))
    (h6_InvalidText : PySem.W.takesIn K (.builtin "object.__class__") = some true)
    (h7_InvalidText : PySem.W.mroIn K C_InvalidText (.type "object") = some true)
    (no_InvalidText : PySem.W.findIn K (.ref C_InvalidText) "value" = some none)
    (ii_InvalidText : PySem.W.findIn K (.ref C_InvalidText) "__init__" = some (some (.ref fi_InvalidText)))
    (ti_InvalidText : PySem.W.typeIn K (.ref fi_InvalidText) = some (.type "function"))
    (li_InvalidText : K.lookup fi_InvalidText = some ⟨oc_InvalidText, od_InvalidText, .func (PySem.W.fnOf "__init__" "InvalidText.__init__" (defArgs s_InvalidText) (defBody s_InvalidText) (defScope s_InvalidText) .none kV_InvalidText dc_InvalidText pm_InvalidText an_InvalidText cd_InvalidText ct_InvalidText), sl_InvalidText⟩)
    (ci_InvalidText : PySem.W.codeIn K cd_InvalidText "InvalidText.__init__" = true)
    (ki_InvalidText : PySem.W.keepIn K (.ref fi_InvalidText) = true) :
    Sound l w K mg 4 fa "_law_script" m_law := by
  have e := hfa.symm.trans (PySem.W.mg_of X G a13)
  cases e
  let t : Txt K mg := {
    f__law_box := f0
    d__law_box := _
    F__law_box := fun_mk (st := s__law_box) l0 c0 k0
    g__law_box := PySem.W.mg_of X G a0
    k__law_box := k0
    f__law_cell := f1
    d__law_cell := _
    F__law_cell := fun_mk (st := s__law_cell) l1 c1 k1
    g__law_cell := PySem.W.mg_of X G a1
    k__law_cell := k1
    f__law_take := f2
    d__law_take := _
    F__law_take := fun_mk (st := s__law_take) l2 c2 k2
    g__law_take := PySem.W.mg_of X G a2
    k__law_take := k2
    f_parse_integer := f3
    d_parse_integer := _
    F_parse_integer := fun_mk (st := s_parse_integer) l3 c3 k3
    g_parse_integer := PySem.W.mg_of X G a3
    k_parse_integer := k3
    D_parse_integer := D3
    Fk_parse_integer := ⟨_, _, _, _, _, rfl⟩
    t_parse_integer_low := t_parse_integer_low
    kd_parse_integer_low := kd_parse_integer_low
    t_parse_integer_high := t_parse_integer_high
    kd_parse_integer_high := kd_parse_integer_high
    f_split_words := f4
    d_split_words := _
    F_split_words := fun_mk (st := s_split_words) l4 c4 k4
    g_split_words := PySem.W.mg_of X G a4
    k_split_words := k4
    D_split_words := D4
    Fk_split_words := ⟨_, _, _, _, _, rfl⟩
    t_split_words_separator := t_split_words_separator
    kd_split_words_separator := kd_split_words_separator
    f__law_long_right := f5
    d__law_long_right := _
    F__law_long_right := fun_mk (st := s__law_long_right) l5 c5 k5
    g__law_long_right := PySem.W.mg_of X G a5
    k__law_long_right := k5
    f__law_digits := f6
    d__law_digits := _
    F__law_digits := fun_mk (st := s__law_digits) l6 c6 k6
    g__law_digits := PySem.W.mg_of X G a6
    k__law_digits := k6
    f__law_number := f7
    d__law_number := _
    F__law_number := fun_mk (st := s__law_number) l7 c7 k7
    g__law_number := PySem.W.mg_of X G a7
    k__law_number := k7
    f__law_within := f8
    d__law_within := _
    F__law_within := fun_mk (st := s__law_within) l8 c8 k8
    g__law_within := PySem.W.mg_of X G a8
    k__law_within := k8
    f__law_numbers_right := f9
    d__law_numbers_right := _
    F__law_numbers_right := fun_mk (st := s__law_numbers_right) l9 c9 k9
    g__law_numbers_right := PySem.W.mg_of X G a9
    k__law_numbers_right := k9
    f__law_words := f10
    d__law_words := _
    F__law_words := fun_mk (st := s__law_words) l10 c10 k10
    g__law_words := PySem.W.mg_of X G a10
    k__law_words := k10
    f__law_parted := f11
    d__law_parted := _
    F__law_parted := fun_mk (st := s__law_parted) l11 c11 k11
    g__law_parted := PySem.W.mg_of X G a11
    k__law_parted := k11
    f__law_words_right := f12
    d__law_words_right := _
    F__law_words_right := fun_mk (st := s__law_words_right) l12 c12 k12
    g__law_words_right := PySem.W.mg_of X G a12
    k__law_words_right := k12
    f_law := fa
    d_law := _
    F_law := fun_mk (st := s_law) l13 c13 k13
    g_law := PySem.W.mg_of X G a13
    k_law := k13
    t_DIGITS := t_DIGITS
    c_DIGITS := PySem.W.mg_of X G c_DIGITS
    t_MOST_DIGITS := t_MOST_DIGITS
    c_MOST_DIGITS := PySem.W.mg_of X G c_MOST_DIGITS
    n_all := PySem.W.mg_none_of X G n_all
    n_int := PySem.W.mg_none_of X G n_int
    n_isinstance := PySem.W.mg_none_of X G n_isinstance
    n_len := PySem.W.mg_none_of X G n_len
    n_max := PySem.W.mg_none_of X G n_max
    n_min := PySem.W.mg_none_of X G n_min
    n_range := PySem.W.mg_none_of X G n_range
    n_repr := PySem.W.mg_none_of X G n_repr
    n_str := PySem.W.mg_none_of X G n_str
    B_PlanError := ⟨_, PySem.W.mg_of X G ga_PlanError, gs_PlanError, gr_PlanError, gi_PlanError⟩
    C_InvalidText := C_InvalidText
    g_InvalidText := PySem.W.mg_of X G g_InvalidText
    T_InvalidText := ⟨⟨nm_InvalidText, q_InvalidText, N_InvalidText, bs_InvalidText, _, sn_InvalidText, su_InvalidText, ab_InvalidText, co_InvalidText, dd_InvalidText, m0_InvalidText, m1_InvalidText, m2_InvalidText, m3_InvalidText, m5_InvalidText, xL_InvalidText, rfl⟩, sa_InvalidText, e1_InvalidText, e2_InvalidText, e3_InvalidText⟩
    E_InvalidText := ⟨h1_InvalidText, h2_InvalidText, e1_InvalidText, h3_InvalidText, h4_InvalidText, h5_InvalidText, h6_InvalidText, h7_InvalidText⟩
    no_InvalidText := no_InvalidText
    fi_InvalidText := fi_InvalidText
    di_InvalidText := _
    Fi_InvalidText := fun_mk (st := s_InvalidText) li_InvalidText ci_InvalidText ki_InvalidText
    ii_InvalidText := ii_InvalidText
    ti_InvalidText := ti_InvalidText }
  exact ⟨_, fun s u => .of_eq rfl, fun base _ _ => ok_law (base := base) t⟩
end
end Lw
open PySem PySem.W PyProof.Rows
namespace Lw
open PySem L2 Mir TL
local macro_rules | `(tactic| fail) => `(tactic| with_reducible first
  | refine ge_pure ?_ | refine ge_op ?_ | refine ge_un ?_ | refine ge_fn ?_ | refine ge_cons ?_ | refine ge_met ?_ | refine ge_call ?_ | refine ge_kw ?_ | refine ge_lst ?_ | refine ge_lstL ?_ | refine ge_tup ?_
  | refine ge_frz ?_ | refine ge_box ?_ | refine ge_exc ?_ | refine ge_dct1 ?_ | refine ge_slice ?_ | refine ge_part ?_ | refine ge_tru ?_ | refine ge_not ?_ | refine ge_and ?_ | refine ge_or ?_ | refine ge_ite ?_
  | refine ge_andB ?_ | refine ge_orB ?_ | refine ge_notB ?_ | refine ge_isB ?_ | refine ge_chain ?_ | refine ge_items ?_ | refine ge_itemsT ?_ | refine ge_signs ?_ | refine ge_rng1 ?_ | refine ge_rng2 ?_
  | refine gs_seq ?_ | refine gs_next ?_ | refine gs_cont ?_ | refine gs_brk ?_ | refine gs_retN ?_ | refine gs_ret ?_ | refine gs_expr ?_ | refine gs_if ?_ | refine gs_set ?_ | refine gs_par ?_ | refine gs_sub ?_)
local macro_rules | `(tactic| fail) => `(tactic| ((with_reducible show Ge (varM _) _ _ _ _); refine ge_varG ?_))
/-- a box at place k, good for n more draws -/
def Box (st : List Cell) (k n : Nat) : Prop := ∃ g m c : Int, st[k]? = some (.lst [.int g, .int m, .int c]) ∧ 0 ≤ g ∧ 0 ≤ m ∧ m < 2147483629 ∧ 0 ≤ c ∧ c + (n : Int) ≤ 1000000
abbrev noE : Ex → List Cell → Prop := fun _ _ => False
theorem box_set {st : List Cell} {k n : Nat} {x : Cell} {g m c : Int} (h : st[k]? = some x) (h1 : 0 ≤ g) (h2 : 0 ≤ m) (h3 : m < 2147483629) (h4 : 0 ≤ c) (h5 : c + (n : Int) ≤ 1000000) : Box (st.set k (.lst [.int g, .int m, .int c])) k n :=
  ⟨g, m, c, List.getElem?_set_self (List.getElem?_eq_some_iff.mp h).1, h1, h2, h3, h4, h5⟩
theorem small64 {i : Int} (h0 : 0 ≤ i) (h : i < 18446744073709551616) : i.natAbs < 2 ^ 64 := by
  have : (2 : Nat) ^ 64 = 18446744073709551616 := by decide
  omega
theorem log_small {i : Int} (h0 : 0 ≤ i) (h : i < 18446744073709551616) : i.natAbs.log2 < 64 := log2_lt (small64 h0 h) (by decide)
theorem take_is {st : List Cell} {k n : Nat} {many : Int} {P : D → List Cell → Prop} (h : Box st k (n + 1)) (hm : 0 < many) (hm2 : many.natAbs.log2 < 9000)
    (q : ∀ (d : Int) (st' : List Cell), 0 ≤ d → d < many → Box st' k n → P (.int d) st') : Gf m__law_take [.ref k, .int many] st P noE := by
  obtain ⟨g, m, c, hk, h1, h2, h3, h4, h5⟩ := h
  have h5' : c + (n : Int) + 1 ≤ 1000000 := by omega
  refine gf_def rfl ?_
  repeat fail
  refine q_ixR hk rfl ?_
  repeat fail
  refine ⟨_, rfl, _, rfl, fun hb => ?_, fun hb => ?_⟩
  · have hg : 0 < g := of_decide_eq_true hb
    repeat fail
    refine q_ixR hk rfl ?_
    repeat fail
    refine q_mod hm ?_
    repeat fail
    refine q_ixR hk rfl ?_
    repeat fail
    refine q_div ⟨hm, hm2⟩ ?_
    repeat fail
    refine q_put hk rfl ?_
    repeat fail
    exact q _ _ (Int.emod_nonneg _ (by omega)) (Int.emod_lt_of_pos _ hm) (box_set hk (Int.ediv_nonneg h1 (by omega)) h2 h3 h4 (by omega))
  · repeat fail
    refine q_ixR hk rfl ?_
    repeat fail
    refine ⟨_, rfl, ?_⟩
    repeat fail
    refine q_put hk rfl ?_
    have hk2 : (st.set k (.lst [.int g, .int m, .int (c + 1)]))[k]? = some (.lst [.int g, .int m, .int (c + 1)]) := List.getElem?_set_self (List.getElem?_eq_some_iff.mp hk).1
    repeat fail
    refine q_ixR hk2 rfl ?_
    repeat fail
    refine q_ixR hk2 rfl ?_
    refine q_mul (by have := log_small (i := c + 1) (by omega) (by omega); have : (15502133 : Int).natAbs.log2 < 64 := by decide +kernel
                     omega) ?_
    refine ⟨_, rfl, ?_⟩
    repeat fail
    refine ⟨_, rfl, ?_⟩
    repeat fail
    refine q_pow ⟨by decide, by decide, small64 (by omega) (by omega)⟩ ?_
    repeat fail
    refine q_mod (by decide) ?_
    generalize hx : (m + 15502133 * (c + 1) + 599) ^ (5 : Int).toNat % 2147483647 = x
    have hx0 : 0 ≤ x := by rw [← hx]; exact Int.emod_nonneg _ (by decide)
    have hx1 : x < 2147483647 := by rw [← hx]; exact Int.emod_lt_of_pos _ (by decide)
    repeat fail
    refine q_ixR hk2 rfl ?_
    refine q_mul (by have := log_small (i := c + 1) (by omega) (by omega); have : (104723 : Int).natAbs.log2 < 64 := by decide +kernel
                     omega) ?_
    refine ⟨_, rfl, ?_⟩
    repeat fail
    refine q_pow ⟨by decide, by decide, small64 (by omega) (by omega)⟩ ?_
    repeat fail
    refine q_mod (by decide) ?_
    repeat fail
    refine q_div ⟨by decide, by decide +kernel⟩ ?_
    repeat fail
    refine q_mod hm ?_
    exact q _ _ (Int.emod_nonneg _ (by omega)) (Int.emod_lt_of_pos _ hm) (box_set hk h1 h2 h3 (by omega) (by omega))
end Lw
namespace Lw
open PySem L2 Mir TL
local macro_rules | `(tactic| fail) => `(tactic| with_reducible first
  | refine ge_pure ?_ | refine ge_op ?_ | refine ge_un ?_ | refine ge_fn ?_ | refine ge_cons ?_ | refine ge_met ?_ | refine ge_call ?_ | refine ge_kw ?_ | refine ge_lst ?_ | refine ge_lstL ?_ | refine ge_tup ?_
  | refine ge_frz ?_ | refine ge_box ?_ | refine ge_exc ?_ | refine ge_dct1 ?_ | refine ge_slice ?_ | refine ge_part ?_ | refine ge_tru ?_ | refine ge_not ?_ | refine ge_and ?_ | refine ge_or ?_ | refine ge_ite ?_
  | refine ge_andB ?_ | refine ge_orB ?_ | refine ge_notB ?_ | refine ge_isB ?_ | refine ge_chain ?_ | refine ge_items ?_ | refine ge_itemsT ?_ | refine ge_signs ?_ | refine ge_rng1 ?_ | refine ge_rng2 ?_
  | refine gs_seq ?_ | refine gs_next ?_ | refine gs_cont ?_ | refine gs_brk ?_ | refine gs_retN ?_ | refine gs_ret ?_ | refine gs_expr ?_ | refine gs_if ?_ | refine gs_set ?_ | refine gs_par ?_ | refine gs_sub ?_)
local macro_rules | `(tactic| fail) => `(tactic| ((with_reducible show Ge (varM _) _ _ _ _); refine ge_varG ?_))
/-! ### numbers as texts -/
theorem val_snoc (cs : List Nat) (c : Nat) : NumText.digitsVal (cs ++ [c]) = NumText.digitsVal cs * 10 + (c - 48) := by
  unfold NumText.digitsVal
  rw [List.foldl_append]
  rfl
theorem rev_ind {p : List Nat → Prop} (h0 : p []) (h1 : ∀ cs d, p cs → p (cs ++ [d])) (cs : List Nat) : p cs := by
  have key : ∀ n (cs : List Nat), cs.length = n → p cs := by
    intro n
    induction n with
    | zero =>
      intro cs h
      rw [List.eq_nil_of_length_eq_zero h]
      exact h0
    | succ n ih =>
      intro cs h
      have ne : cs ≠ [] := fun z => by
        rw [z] at h
        cases h
      rw [← List.dropLast_concat_getLast ne]
      exact h1 _ _ (ih _ (by rw [List.length_dropLast]; omega))
  exact key _ cs rfl
theorem val_pos : ∀ (cs : List Nat), NumText.AllDigits cs → (∃ c r, cs = c :: r ∧ c ≠ 48) → 0 < NumText.digitsVal cs := by
  refine rev_ind ?_ ?_
  · rintro _ ⟨c, r, h, _⟩
    cases h
  · rintro cs d ih h ⟨c, r, e, hc⟩
    rw [val_snoc]
    cases cs with
    | nil =>
      cases e
      have := h d (by simp)
      omega
    | cons c' cs =>
      have e1 : c' = c := by
        have := congrArg List.head? e
        simpa using this
      have z := ih (fun x hx => h x (List.mem_append_left _ hx)) ⟨c', cs, rfl, by rw [e1]; exact hc⟩
      omega
/-- a text of digits without a leading zero is its number's own text -/
theorem num_back : ∀ (cs : List Nat), NumText.AllDigits cs → (∃ c r, cs = c :: r ∧ (c ≠ 48 ∨ r = [])) → numL (NumText.digitsVal cs) = cs := by
  refine rev_ind ?_ ?_
  · rintro _ ⟨c, r, h, _⟩
    cases h
  · rintro cs d ih h ⟨c, r, e, hc⟩
    have hd := h d (by simp)
    rw [val_snoc]
    cases cs with
    | nil =>
      have z : NumText.digitsVal [] * 10 + (d - 48) = d - 48 := by
        show 0 * 10 + (d - 48) = d - 48
        omega
      rw [z, numL_lt (by omega)]
      show [48 + (d - 48)] = [d]
      rw [show 48 + (d - 48) = d by omega]
    | cons c' cs =>
      have e1 : c' = c := by
        have := congrArg List.head? e
        simpa using this
      have ne : c' ≠ 48 := by
        rcases hc with hc | hc
        · rw [e1]
          exact hc
        · rw [hc] at e
          have := congrArg List.length e
          simp at this
      have hh : NumText.AllDigits (c' :: cs) := fun x hx => h x (List.mem_append_left _ hx)
      have pos := val_pos _ hh ⟨c', cs, rfl, ne⟩
      rw [numL_step (by omega)]
      have q1 : (NumText.digitsVal (c' :: cs) * 10 + (d - 48)) / 10 = NumText.digitsVal (c' :: cs) := by omega
      have q2 : (NumText.digitsVal (c' :: cs) * 10 + (d - 48)) % 10 = d - 48 := by omega
      rw [q1, q2, ih hh ⟨c', cs, rfl, .inl ne⟩, show 48 + (d - 48) = d by omega]
end Lw
namespace Lw
open PySem L2 Mir TL
local macro_rules | `(tactic| fail) => `(tactic| with_reducible first
  | refine ge_pure ?_ | refine ge_op ?_ | refine ge_un ?_ | refine ge_fn ?_ | refine ge_cons ?_ | refine ge_met ?_ | refine ge_call ?_ | refine ge_kw ?_ | refine ge_lst ?_ | refine ge_lstL ?_ | refine ge_tup ?_
  | refine ge_frz ?_ | refine ge_box ?_ | refine ge_exc ?_ | refine ge_dct1 ?_ | refine ge_slice ?_ | refine ge_part ?_ | refine ge_tru ?_ | refine ge_not ?_ | refine ge_and ?_ | refine ge_or ?_ | refine ge_ite ?_
  | refine ge_andB ?_ | refine ge_orB ?_ | refine ge_notB ?_ | refine ge_isB ?_ | refine ge_chain ?_ | refine ge_items ?_ | refine ge_itemsT ?_ | refine ge_signs ?_ | refine ge_rng1 ?_ | refine ge_rng2 ?_
  | refine gs_seq ?_ | refine gs_next ?_ | refine gs_cont ?_ | refine gs_brk ?_ | refine gs_retN ?_ | refine gs_ret ?_ | refine gs_expr ?_ | refine gs_if ?_ | refine gs_set ?_ | refine gs_par ?_ | refine gs_sub ?_)
local macro_rules | `(tactic| fail) => `(tactic| ((with_reducible show Ge (varM _) _ _ _ _); refine ge_varG ?_))
/-! ### words -/
def parts (c : Nat) : List Nat → List Nat → List (List Nat)
  | _, [] => []
  | acc, d :: r => if d = c then acc :: parts c [] r else parts c (acc ++ [d]) r
theorem parts_spl (c : Nat) : ∀ (cs acc : List Nat), parts c acc (cs ++ [c]) = spl [c] 0 acc cs
  | [], acc => by
    show (if c = c then acc :: parts c [] [] else _) = [acc]
    rw [if_pos rfl]
    rfl
  | d :: cs, acc => by
    show (if d = c then acc :: parts c [] (cs ++ [c]) else parts c (acc ++ [d]) (cs ++ [c])) = if pre [c] (d :: cs) = true then acc :: spl [c] ([c].length - 1) [] cs else spl [c] 0 (acc ++ [d]) cs
    rw [parts_spl c cs [], parts_spl c cs (acc ++ [d])]
    by_cases h : d = c
    · subst h
      rw [if_pos rfl, if_pos (by simp [pre])]
      rfl
    · rw [if_neg h, if_neg (by simp [pre]; exact fun z => h z)]
theorem kind_asc {x : Str} (h : ∀ c ∈ x.cps.toList, c < 128) : Builtin.Str.strKind x = 1 := by
  unfold Builtin.Str.strKind
  rw [if_pos]
  rw [← Array.all_toList, List.all_eq_true]
  intro c hc
  have := h c hc
  exact decide_eq_true (by omega)
theorem split_parts {x : Str} {c : Nat} (h : ∀ d ∈ x.cps.toList, d < 128) (hc : c < 128) : (Txt.split x ⟨#[c]⟩) = (parts c [] (x.cps.toList ++ [c])).map fun l => (⟨l.toArray⟩ : Str) := by
  have k1 : Builtin.Str.strKind x = 1 := kind_asc h
  have k2 : Builtin.Str.strKind ⟨#[c]⟩ = 1 := kind_asc (x := ⟨#[c]⟩) fun d hd => by
    have e : d = c := by simpa using hd
    rw [e]
    exact hc
  apply map_tl_inj
  rw [split_spl x ⟨#[c]⟩ (by show [c] ≠ []; simp) (by rw [k1, k2]; omega), parts_spl]
  rw [List.map_map]
  show spl [c] 0 [] x.cps.toList = _
  have e : (tl ∘ fun l => (⟨l.toArray⟩ : Str)) = id := by
    funext l
    rfl
  rw [e, List.map_id]
end Lw
namespace Lw
open PySem L2 Mir TL
local macro_rules | `(tactic| fail) => `(tactic| with_reducible first
  | refine ge_pure ?_ | refine ge_op ?_ | refine ge_un ?_ | refine ge_fn ?_ | refine ge_cons ?_ | refine ge_met ?_ | refine ge_call ?_ | refine ge_kw ?_ | refine ge_lst ?_ | refine ge_lstL ?_ | refine ge_tup ?_
  | refine ge_frz ?_ | refine ge_box ?_ | refine ge_exc ?_ | refine ge_dct1 ?_ | refine ge_slice ?_ | refine ge_part ?_ | refine ge_tru ?_ | refine ge_not ?_ | refine ge_and ?_ | refine ge_or ?_ | refine ge_ite ?_
  | refine ge_andB ?_ | refine ge_orB ?_ | refine ge_notB ?_ | refine ge_isB ?_ | refine ge_chain ?_ | refine ge_items ?_ | refine ge_itemsT ?_ | refine ge_signs ?_ | refine ge_rng1 ?_ | refine ge_rng2 ?_
  | refine gs_seq ?_ | refine gs_next ?_ | refine gs_cont ?_ | refine gs_brk ?_ | refine gs_retN ?_ | refine gs_ret ?_ | refine gs_expr ?_ | refine gs_if ?_ | refine gs_set ?_ | refine gs_par ?_ | refine gs_sub ?_)
local macro_rules | `(tactic| fail) => `(tactic| ((with_reducible show Ge (varM _) _ _ _ _); refine ge_varG ?_))
local macro_rules | `(tactic| fail "s") => `(tactic| first | omega | assumption | decide | (simp only [len_app]; omega) | decide +kernel)
local macro_rules | `(tactic| fail) => `(tactic| with_reducible first
  | refine q_addI ?_ | refine q_subI ?_ | refine q_ltI ?_ | refine q_leI ?_ | refine q_gtI ?_ | refine q_geI ?_ | refine q_eqI ?_ | refine q_neI ?_ | refine q_eqSS ?_ | refine q_neSS ?_ | refine q_eqS ?_ | refine q_neS ?_ | refine q_isN_non ?_ | refine q_isNN_non ?_ | refine q_isN_bl ?_ | refine q_isNN_bl ?_ | refine q_isN_int ?_ | refine q_isNN_int ?_ | refine q_isN_str ?_ | refine q_isNN_str ?_ | refine q_isN_lst ?_ | refine q_isNN_lst ?_ | refine q_isN_tup ?_ | refine q_isNN_tup ?_ | refine q_isN_ref ?_ | refine q_isNN_ref ?_ | refine q_isN_dct ?_ | refine q_isNN_dct ?_ | refine q_isN_exc ?_ | refine q_isNN_exc ?_
  | refine q_chLt ?_ | refine q_chLe ?_ | refine q_chGt ?_ | refine q_chGe ?_ | refine q_max ?_ | refine q_min ?_ | refine q_lenL ?_
  | refine q_truB ?_ | refine q_asB ?_ | refine q_asI ?_ | refine q_asS ?_ | refine q_asL ?_ | refine q_asT ?_ | refine q_pair ?_ | refine q_one ?_
  | refine br_t ?_ | refine br_f ?_ | refine br_nt ?_ | refine br_nf ?_
  | refine q_size (Nat.le_of_ble_eq_true (by with_unfolding_all rfl)) ?_ | refine q_nk (by with_unfolding_all rfl) (by with_unfolding_all rfl) ?_)
local macro_rules | `(tactic| fail) => `(tactic| with_reducible first
  | refine q_addS (by fail "s") ?_ | refine Mir.q_len (by fail "s") ?_ | refine Mir.q_cut (by fail "s") ?_ | refine q_mod (by fail "s") ?_ | refine q_in62 (by fail "s") (by fail "s") ?_)
local macro_rules | `(tactic| fail) => `(tactic| with_reducible first
  | refine br_dT (by omega) ?_ | refine br_dF (by omega) ?_ | refine br_ndT (by omega) ?_ | refine br_ndF (by omega) ?_)
local macro_rules | `(tactic| fail "b") => `(tactic| with_reducible first | refine br_d (fun _ => ?_) (fun _ => ?_) | refine br_nd (fun _ => ?_) (fun _ => ?_) | refine br_b (fun _ => ?_) (fun _ => ?_))
theorem Box.mono {st : List Cell} {k n m : Nat} (h : Box st k n) (hm : m ≤ n) : Box st k m := by
  obtain ⟨g, a, c, h0, h1, h2, h3, h4, h5⟩ := h
  exact ⟨g, a, c, h0, h1, h2, h3, h4, by omega⟩
theorem take_isA {st : List Cell} {k m : Nat} {many : Int} {P : D → List Cell → Prop} (h : Box st k m) (h0 : 0 < m) (hm : 0 < many) (hm2 : many < 1267650600228229401496703205376)
    (q : ∀ (d : Int) (st' : List Cell), 0 ≤ d → d < many → Box st' k (m - 1) → P (.int d) st') : Gf m__law_take [.ref k, .int many] st P noE := by
  obtain ⟨n, rfl⟩ : ∃ n, m = n + 1 := ⟨m - 1, by omega⟩
  exact take_is (n := n) h hm (by have := log100 (i := many) (by omega) hm2; omega) q
theorem q_isi {st : List Cell} {x : D} {n : String} {t : Ty} {Q : D → Prop} (b : Bool) (h1 : tagOf st x = some t) (h2 : kt t (.b n) = some b) (q : Q (.bl b)) : ∃ d, isiD kt st [x, .ty n] = some d ∧ Q d :=
  ⟨.bl b, by unfold isiD; dsimp only; rw [h1]; dsimp only [clsT]; rw [h2]; rfl, q⟩
end Lw
namespace Lw
open PySem L2 Mir TL
local macro_rules | `(tactic| fail) => `(tactic| with_reducible first
  | refine ge_pure ?_ | refine ge_op ?_ | refine ge_un ?_ | refine ge_fn ?_ | refine ge_cons ?_ | refine ge_met ?_ | refine ge_call ?_ | refine ge_kw ?_ | refine ge_lst ?_ | refine ge_lstL ?_ | refine ge_tup ?_
  | refine ge_frz ?_ | refine ge_box ?_ | refine ge_exc ?_ | refine ge_dct1 ?_ | refine ge_slice ?_ | refine ge_part ?_ | refine ge_tru ?_ | refine ge_not ?_ | refine ge_and ?_ | refine ge_or ?_ | refine ge_ite ?_
  | refine ge_andB ?_ | refine ge_orB ?_ | refine ge_notB ?_ | refine ge_isB ?_ | refine ge_chain ?_ | refine ge_items ?_ | refine ge_itemsT ?_ | refine ge_signs ?_ | refine ge_rng1 ?_ | refine ge_rng2 ?_
  | refine gs_seq ?_ | refine gs_next ?_ | refine gs_cont ?_ | refine gs_brk ?_ | refine gs_retN ?_ | refine gs_ret ?_ | refine gs_expr ?_ | refine gs_if ?_ | refine gs_set ?_ | refine gs_par ?_ | refine gs_sub ?_)
local macro_rules | `(tactic| fail) => `(tactic| ((with_reducible show Ge (varM _) _ _ _ _); refine ge_varG ?_))
local macro_rules | `(tactic| fail "s") => `(tactic| first | omega | assumption | decide | (simp only [len_app]; omega) | decide +kernel)
local macro_rules | `(tactic| fail) => `(tactic| with_reducible first
  | refine q_addI ?_ | refine q_subI ?_ | refine q_ltI ?_ | refine q_leI ?_ | refine q_gtI ?_ | refine q_geI ?_ | refine q_eqI ?_ | refine q_neI ?_ | refine q_eqSS ?_ | refine q_neSS ?_ | refine q_eqS ?_ | refine q_neS ?_ | refine q_isN_non ?_ | refine q_isNN_non ?_ | refine q_isN_bl ?_ | refine q_isNN_bl ?_ | refine q_isN_int ?_ | refine q_isNN_int ?_ | refine q_isN_str ?_ | refine q_isNN_str ?_ | refine q_isN_lst ?_ | refine q_isNN_lst ?_ | refine q_isN_tup ?_ | refine q_isNN_tup ?_ | refine q_isN_ref ?_ | refine q_isNN_ref ?_ | refine q_isN_dct ?_ | refine q_isNN_dct ?_ | refine q_isN_exc ?_ | refine q_isNN_exc ?_
  | refine q_chLt ?_ | refine q_chLe ?_ | refine q_chGt ?_ | refine q_chGe ?_ | refine q_max ?_ | refine q_min ?_ | refine q_lenL ?_
  | refine q_truB ?_ | refine q_asB ?_ | refine q_asI ?_ | refine q_asS ?_ | refine q_asL ?_ | refine q_asT ?_ | refine q_pair ?_ | refine q_one ?_
  | refine br_t ?_ | refine br_f ?_ | refine br_nt ?_ | refine br_nf ?_
  | refine q_size (Nat.le_of_ble_eq_true (by with_unfolding_all rfl)) ?_ | refine q_nk (by with_unfolding_all rfl) (by with_unfolding_all rfl) ?_)
local macro_rules | `(tactic| fail) => `(tactic| with_reducible first
  | refine q_addS (by fail "s") ?_ | refine Mir.q_len (by fail "s") ?_ | refine Mir.q_cut (by fail "s") ?_ | refine q_mod (by fail "s") ?_ | refine q_in62 (by fail "s") (by fail "s") ?_)
local macro_rules | `(tactic| fail) => `(tactic| with_reducible first
  | refine br_dT (by omega) ?_ | refine br_dF (by omega) ?_ | refine br_ndT (by omega) ?_ | refine br_ndF (by omega) ?_)
local macro_rules | `(tactic| fail "b") => `(tactic| with_reducible first | refine br_d (fun _ => ?_) (fun _ => ?_) | refine br_nd (fun _ => ?_) (fun _ => ?_) | refine br_b (fun _ => ?_) (fun _ => ?_))
/-! ### what a number's text is -/
def digs : Str := "0123456789"
theorem digs_mem (c : Nat) : c ∈ digs.cps.toList ↔ 48 ≤ c ∧ c ≤ 57 := by
  have e : digs.cps.toList = [48, 49, 50, 51, 52, 53, 54, 55, 56, 57] := by decide +kernel
  rw [e]
  simp only [List.mem_cons, List.not_mem_nil, or_false]
  omega
def isDig (w : Str) : Bool := decide (∀ c ∈ w.cps.toList, c ∈ digs.cps.toList)
def lead (w : Str) : Bool := decide (w.cps.toList.head? = some 48) && decide (1 < w.length)
def numT (w : Str) : Option Nat := if (decide (0 < w.length) && decide (w.length ≤ 30) && isDig w && !lead w) = true then some (NumText.digitsVal w.cps.toList) else none
def numD : Option Nat → D
  | some n => .int n
  | none => .non
def withinD (o : Option Nat) (lo hi : Int) : D := match o with
  | some n => if (between lo n hi) = true then .int n else .non
  | none => .non
theorem isDig_all {w : Str} (h : isDig w = true) : NumText.AllDigits w.cps.toList := fun c hc => (digs_mem c).mp (of_decide_eq_true h c hc)
theorem int_text {w : Str} (h : isDig w = true) (h0 : 0 < w.length) (h1 : w.length ≤ 30) : PySem.intText? w = some ((NumText.digitsVal w.cps.toList : Nat) : Int) :=
  intText_digits (isDig_all h) (fun z => by
    have : w.length = 0 := by
      rw [len_tl]
      show w.cps.toList.length = 0
      rw [z]
      rfl
    omega) (by omega)
theorem val_lt : ∀ (cs : List Nat), NumText.AllDigits cs → NumText.digitsVal cs < 10 ^ cs.length := by
  refine rev_ind ?_ ?_
  · intro _
    decide
  · intro cs d ih h
    rw [val_snoc, List.length_append, List.length_singleton, Nat.pow_succ]
    have h1 := ih fun x hx => h x (List.mem_append_left _ hx)
    have h2 := h d (by simp)
    omega
/-- the number's own text is the text, if no zero leads -/
theorem text_back {w : Str} (h : isDig w = true) (h0 : 0 < w.length) : (Str.ofString (toString ((NumText.digitsVal w.cps.toList : Nat) : Int)) = w) ↔ lead w = false := by
  have hw : w.length = w.cps.toList.length := len_tl w
  constructor
  · intro e
    by_cases hl : lead w = true
    · exfalso
      unfold lead at hl
      rw [Bool.and_eq_true, decide_eq_true_eq, decide_eq_true_eq] at hl
      obtain ⟨z1, z2⟩ := hl
      have e2 : numL (NumText.digitsVal w.cps.toList) = w.cps.toList := by
        have := congrArg tl e
        rw [tl_num] at this
        exact this
      -- a leading zero would shorten the number
      cases hc : w.cps.toList with
      | nil =>
        rw [hc] at z1
        cases z1
      | cons c r =>
        rw [hc] at z1 e2 hw
        cases z1
        have hr : NumText.AllDigits r := fun x hx => isDig_all h x (by rw [hc]; exact List.mem_cons_of_mem _ hx)
        have v : NumText.digitsVal (48 :: r) = NumText.digitsVal r := rfl
        rw [v] at e2
        have lt := val_lt r hr
        have rl : 0 < r.length := by
          rw [List.length_cons] at hw
          omega
        have len := numL_len rl lt
        rw [e2, List.length_cons] at len
        omega
    · simpa using hl
  · intro hl
    apply ext_tl
    rw [tl_num]
    refine num_back _ (isDig_all h) ?_
    cases hc : w.cps.toList with
    | nil =>
      rw [hc] at hw
      simp at hw
      omega
    | cons c r =>
      refine ⟨c, r, rfl, ?_⟩
      unfold lead at hl
      rw [hc] at hl
      by_cases z : c = 48
      · right
        subst z
        have : ¬ 1 < w.length := by simpa using hl
        rw [hc, List.length_cons] at hw
        exact List.eq_nil_of_length_eq_zero (by omega)
      · exact .inl z
end Lw
namespace Lw
open PySem L2 Mir TL
local macro_rules | `(tactic| fail) => `(tactic| with_reducible first
  | refine ge_pure ?_ | refine ge_op ?_ | refine ge_un ?_ | refine ge_fn ?_ | refine ge_cons ?_ | refine ge_met ?_ | refine ge_call ?_ | refine ge_kw ?_ | refine ge_lst ?_ | refine ge_lstL ?_ | refine ge_tup ?_
  | refine ge_frz ?_ | refine ge_box ?_ | refine ge_exc ?_ | refine ge_dct1 ?_ | refine ge_slice ?_ | refine ge_part ?_ | refine ge_tru ?_ | refine ge_not ?_ | refine ge_and ?_ | refine ge_or ?_ | refine ge_ite ?_
  | refine ge_andB ?_ | refine ge_orB ?_ | refine ge_notB ?_ | refine ge_isB ?_ | refine ge_chain ?_ | refine ge_items ?_ | refine ge_itemsT ?_ | refine ge_signs ?_ | refine ge_rng1 ?_ | refine ge_rng2 ?_
  | refine gs_seq ?_ | refine gs_next ?_ | refine gs_cont ?_ | refine gs_brk ?_ | refine gs_retN ?_ | refine gs_ret ?_ | refine gs_expr ?_ | refine gs_if ?_ | refine gs_set ?_ | refine gs_par ?_ | refine gs_sub ?_)
local macro_rules | `(tactic| fail) => `(tactic| ((with_reducible show Ge (varM _) _ _ _ _); refine ge_varG ?_))
local macro_rules | `(tactic| fail "s") => `(tactic| first | omega | assumption | decide | (simp only [len_app]; omega) | decide +kernel)
local macro_rules | `(tactic| fail) => `(tactic| with_reducible first
  | refine q_addI ?_ | refine q_subI ?_ | refine q_ltI ?_ | refine q_leI ?_ | refine q_gtI ?_ | refine q_geI ?_ | refine q_eqI ?_ | refine q_neI ?_ | refine q_eqSS ?_ | refine q_neSS ?_ | refine q_eqS ?_ | refine q_neS ?_ | refine q_isN_non ?_ | refine q_isNN_non ?_ | refine q_isN_bl ?_ | refine q_isNN_bl ?_ | refine q_isN_int ?_ | refine q_isNN_int ?_ | refine q_isN_str ?_ | refine q_isNN_str ?_ | refine q_isN_lst ?_ | refine q_isNN_lst ?_ | refine q_isN_tup ?_ | refine q_isNN_tup ?_ | refine q_isN_ref ?_ | refine q_isNN_ref ?_ | refine q_isN_dct ?_ | refine q_isNN_dct ?_ | refine q_isN_exc ?_ | refine q_isNN_exc ?_
  | refine q_chLt ?_ | refine q_chLe ?_ | refine q_chGt ?_ | refine q_chGe ?_ | refine q_max ?_ | refine q_min ?_ | refine q_lenL ?_
  | refine q_truB ?_ | refine q_asB ?_ | refine q_asI ?_ | refine q_asS ?_ | refine q_asL ?_ | refine q_asT ?_ | refine q_pair ?_ | refine q_one ?_
  | refine br_t ?_ | refine br_f ?_ | refine br_nt ?_ | refine br_nf ?_
  | refine q_size (Nat.le_of_ble_eq_true (by with_unfolding_all rfl)) ?_ | refine q_nk (by with_unfolding_all rfl) (by with_unfolding_all rfl) ?_)
local macro_rules | `(tactic| fail) => `(tactic| with_reducible first
  | refine q_addS (by fail "s") ?_ | refine Mir.q_len (by fail "s") ?_ | refine Mir.q_cut (by fail "s") ?_ | refine q_mod (by fail "s") ?_ | refine q_in62 (by fail "s") (by fail "s") ?_)
local macro_rules | `(tactic| fail) => `(tactic| with_reducible first
  | refine br_dT (by omega) ?_ | refine br_dF (by omega) ?_ | refine br_ndT (by omega) ?_ | refine br_ndF (by omega) ?_)
local macro_rules | `(tactic| fail "b") => `(tactic| with_reducible first | refine br_d (fun _ => ?_) (fun _ => ?_) | refine br_nd (fun _ => ?_) (fun _ => ?_) | refine br_b (fun _ => ?_) (fun _ => ?_))
local macro_rules | `(tactic| fail) => `(tactic| ((with_reducible show Gf m__law_take _ _ _ _); refine take_isA (by assumption) (by omega) (by omega) (by omega) (fun _ _ _ _ _ => ?_)))
local macro_rules | `(tactic| fail) => `(tactic| with_reducible first | refine q_isi true (by with_unfolding_all rfl) (by decide +kernel) ?_ | refine q_isi false (by with_unfolding_all rfl) (by decide +kernel) ?_)
local macro_rules | `(tactic| fail) => `(tactic| with_reducible first | refine ge_btw ?_ | refine q_btwI ?_)
local macro_rules | `(tactic| fail) => `(tactic| ((with_reducible show Gf m_parse_integer _ _ _ _); refine pint_is (by omega) ?_))
theorem numT_none {w : Str} (h : ¬ (0 < w.length ∧ w.length ≤ 30 ∧ isDig w = true ∧ lead w = false)) : numT w = none := by
  unfold numT
  rw [if_neg]
  intro z
  simp only [Bool.and_eq_true, decide_eq_true_eq, Bool.not_eq_true'] at z
  exact h ⟨z.1.1.1, z.1.1.2, z.1.2, z.2⟩
theorem numT_some {w : Str} (h0 : 0 < w.length) (h1 : w.length ≤ 30) (h2 : isDig w = true) (h3 : lead w = false) : numT w = some (NumText.digitsVal w.cps.toList) := by
  unfold numT
  rw [if_pos]
  simp only [Bool.and_eq_true, decide_eq_true_eq, Bool.not_eq_true']
  exact ⟨⟨⟨h0, h1⟩, h2⟩, h3⟩
theorem q_strip {st : List Cell} {a b : Str} {Q : D → Prop} (h : a.length ≤ 1000000) (q : Q (.str (Txt.stripChars a b))) : ∃ d, stripD st a (.str b) = some d ∧ Q d := ⟨_, by unfold stripD; dsimp only; rw [if_pos (by rw [sizeLine_eq]; omega)], q⟩
theorem val_small {w : Str} (h : isDig w = true) (h1 : w.length ≤ 30) : NumText.digitsVal w.cps.toList < 10 ^ 30 := by
  have k := val_lt _ (isDig_all h)
  have : w.cps.toList.length ≤ 30 := by rw [← (len_tl w : w.length = w.cps.toList.length)]; exact h1
  exact Nat.lt_of_lt_of_le k (Nat.pow_le_pow_right (by decide) this)
theorem pint_is {st : List Cell} {w : Str} {lo hi : Int} {P : D → List Cell → Prop} (hl : w.length ≤ 100000) (q : P (withinD (numT w) lo hi) st) : Gf m_parse_integer [.str w, .int lo, .int hi] st P noE := by
  refine gf_def rfl ?_
  repeat fail
  fail "b"
  · repeat fail
    fail "b"
    · repeat fail
      have e : numT w = none := numT_none fun z => by omega
      rw [e] at q
      exact q
    · repeat fail
      refine q_strip (by omega) ?_
      repeat fail
      fail "b"
      · repeat fail
        rename_i h0 h1 h2
        have e : numT w = none := numT_none fun z => h2 ((strip_none w digs).mpr (of_decide_eq_true z.2.2.1))
        rw [e] at q
        exact q
      · repeat fail
        rename_i h0 h1 h2
        have hd : isDig w = true := decide_eq_true ((strip_none w digs).mp h2)
        have hs := val_small hd (by omega)
        refine ⟨.int (NumText.digitsVal w.cps.toList : Nat), ?_, ?_⟩
        · unfold int2D
          dsimp only
          rw [int_text hd (by omega) (by omega)]
          dsimp only
          rw [if_pos (by omega)]
        repeat fail
        refine q_str (log40 (by omega)) ?_
        repeat fail
        fail "b"
        · repeat fail
          rename_i h3
          have hl := (text_back hd (by omega)).mp h3
          rw [numT_some (by omega) (by omega) hd hl] at q
          refine br_b (fun h => ?_) (fun h => ?_)
          · repeat fail
            unfold withinD at q
            dsimp only at q
            rw [if_pos h] at q
            exact q
          · repeat fail
            unfold withinD at q
            dsimp only at q
            rw [if_neg (by rw [h]; exact Bool.false_ne_true)] at q
            exact q
        · repeat fail
          rename_i h3
          have e : numT w = none := numT_none fun z => h3 ((text_back hd (by omega)).mpr z.2.2.2)
          rw [e] at q
          exact q
  · repeat fail
    have e : numT w = none := numT_none fun z => by omega
    rw [e] at q
    exact q
end Lw
namespace Lw
open PySem L2 Mir TL
local macro_rules | `(tactic| fail) => `(tactic| with_reducible first
  | refine ge_pure ?_ | refine ge_op ?_ | refine ge_un ?_ | refine ge_fn ?_ | refine ge_cons ?_ | refine ge_met ?_ | refine ge_call ?_ | refine ge_kw ?_ | refine ge_lst ?_ | refine ge_lstL ?_ | refine ge_tup ?_
  | refine ge_frz ?_ | refine ge_box ?_ | refine ge_exc ?_ | refine ge_dct1 ?_ | refine ge_slice ?_ | refine ge_part ?_ | refine ge_tru ?_ | refine ge_not ?_ | refine ge_and ?_ | refine ge_or ?_ | refine ge_ite ?_
  | refine ge_andB ?_ | refine ge_orB ?_ | refine ge_notB ?_ | refine ge_isB ?_ | refine ge_chain ?_ | refine ge_items ?_ | refine ge_itemsT ?_ | refine ge_signs ?_ | refine ge_rng1 ?_ | refine ge_rng2 ?_
  | refine gs_seq ?_ | refine gs_next ?_ | refine gs_cont ?_ | refine gs_brk ?_ | refine gs_retN ?_ | refine gs_ret ?_ | refine gs_expr ?_ | refine gs_if ?_ | refine gs_set ?_ | refine gs_par ?_ | refine gs_sub ?_)
local macro_rules | `(tactic| fail) => `(tactic| ((with_reducible show Ge (varM _) _ _ _ _); refine ge_varG ?_))
local macro_rules | `(tactic| fail "s") => `(tactic| first | omega | assumption | decide | (simp only [len_app]; omega) | decide +kernel)
local macro_rules | `(tactic| fail) => `(tactic| with_reducible first
  | refine q_addI ?_ | refine q_subI ?_ | refine q_ltI ?_ | refine q_leI ?_ | refine q_gtI ?_ | refine q_geI ?_ | refine q_eqI ?_ | refine q_neI ?_ | refine q_eqSS ?_ | refine q_neSS ?_ | refine q_eqS ?_ | refine q_neS ?_ | refine q_isN_non ?_ | refine q_isNN_non ?_ | refine q_isN_bl ?_ | refine q_isNN_bl ?_ | refine q_isN_int ?_ | refine q_isNN_int ?_ | refine q_isN_str ?_ | refine q_isNN_str ?_ | refine q_isN_lst ?_ | refine q_isNN_lst ?_ | refine q_isN_tup ?_ | refine q_isNN_tup ?_ | refine q_isN_ref ?_ | refine q_isNN_ref ?_ | refine q_isN_dct ?_ | refine q_isNN_dct ?_ | refine q_isN_exc ?_ | refine q_isNN_exc ?_
  | refine q_chLt ?_ | refine q_chLe ?_ | refine q_chGt ?_ | refine q_chGe ?_ | refine q_max ?_ | refine q_min ?_ | refine q_lenL ?_
  | refine q_truB ?_ | refine q_asB ?_ | refine q_asI ?_ | refine q_asS ?_ | refine q_asL ?_ | refine q_asT ?_ | refine q_pair ?_ | refine q_one ?_
  | refine br_t ?_ | refine br_f ?_ | refine br_nt ?_ | refine br_nf ?_
  | refine q_size (Nat.le_of_ble_eq_true (by with_unfolding_all rfl)) ?_ | refine q_nk (by with_unfolding_all rfl) (by with_unfolding_all rfl) ?_)
local macro_rules | `(tactic| fail) => `(tactic| with_reducible first
  | refine q_addS (by fail "s") ?_ | refine Mir.q_len (by fail "s") ?_ | refine Mir.q_cut (by fail "s") ?_ | refine q_mod (by fail "s") ?_ | refine q_in62 (by fail "s") (by fail "s") ?_)
local macro_rules | `(tactic| fail) => `(tactic| with_reducible first
  | refine br_dT (by omega) ?_ | refine br_dF (by omega) ?_ | refine br_ndT (by omega) ?_ | refine br_ndF (by omega) ?_)
local macro_rules | `(tactic| fail "b") => `(tactic| with_reducible first | refine br_d (fun _ => ?_) (fun _ => ?_) | refine br_nd (fun _ => ?_) (fun _ => ?_) | refine br_b (fun _ => ?_) (fun _ => ?_))
local macro_rules | `(tactic| fail) => `(tactic| ((with_reducible show Gf m__law_take _ _ _ _); refine take_isA (by assumption) (by omega) (by omega) (by omega) (fun _ _ _ _ _ => ?_)))
local macro_rules | `(tactic| fail) => `(tactic| with_reducible first | refine q_isi true (by with_unfolding_all rfl) (by decide +kernel) ?_ | refine q_isi false (by with_unfolding_all rfl) (by decide +kernel) ?_)
local macro_rules | `(tactic| fail) => `(tactic| with_reducible first | refine ge_btw ?_ | refine q_btwI ?_)
local macro_rules | `(tactic| fail) => `(tactic| ((with_reducible show Gf m_parse_integer _ _ _ _); refine pint_is (by omega) ?_))
theorem pint_not {st : List Cell} {x lo hi : D} {t : Ty} {P : D → List Cell → Prop} (h1 : tagOf st x = some t) (h2 : kt t (.b "str") = some false) (q : P .non st) : Gf m_parse_integer [x, lo, hi] st P noE := by
  refine gf_def rfl ?_
  repeat fail
  refine q_isi false h1 h2 ?_
  repeat fail
  exact q
theorem idx_dig {st : List Cell} {c : Nat} (h0 : 48 ≤ c) (h1 : c ≤ 57) : indexD st "0123456789" (sg c) = some (.int ((c - 48 : Nat) : Int)) := by
  have occ : ∀ k : Fin 10, Builtin.Str.occurrences "0123456789" ⟨#[48 + k.val]⟩ 0 10 1 = [k.val] := by decide +kernel
  have o := occ ⟨c - 48, by omega⟩
  have e : 48 + (c - 48) = c := by omega
  dsimp only at o
  rw [e] at o
  unfold indexD
  dsimp only
  have e2 : ("0123456789" : Str).length = 10 := by decide +kernel
  rw [e2, o]
theorem len_list (w : Str) : w.cps.toList.length = w.length := by simp [Str.length]
theorem q_ch0 {st : List Cell} {w : Str} {Q : D → Prop} (h : w.length ≤ 1000000) (h0 : 0 < w.length) (q : ∀ c r, w.cps.toList = c :: r → Q (sg c)) : ∃ d, ixD st (.str w) (.int 0) = some d ∧ Q d := by
  cases e : w.cps.toList with
  | nil =>
    have := len_list w
    rw [e] at this
    simp at this
    omega
  | cons c r =>
    refine ⟨sg c, ?_, q c r e⟩
    unfold ixD
    dsimp only
    rw [if_pos (by rw [sizeLine_eq]; omega)]
    have k := atI_at (xs := w.cps.toList) (i := 0) (x := c) (by rw [e]; rfl)
    rw [Int.natCast_zero] at k
    rw [k]
    rfl
theorem number_is {st : List Cell} {w : Str} {P : D → List Cell → Prop} (hl : w.length ≤ 1000) (ha : Asc w) (q : P (numD (numT w)) st) : Gf m__law_number [.str w] st P noE := by
  have no : (¬ (0 < w.length ∧ w.length ≤ 30 ∧ isDig w = true ∧ lead w = false)) → P .non st := fun h => by
    rw [numT_none h] at q
    exact q
  refine gf_def rfl ?_
  repeat fail
  fail "b"
  · repeat fail
    rename_i h
    exact no fun z => by
      have := (str_nil w).mp h
      omega
  have h0 : 0 < w.length := by
    rename_i h
    rcases Nat.eq_zero_or_pos w.length with y | y
    · exact absurd ((str_nil w).mpr y) h
    · exact y
  repeat fail
  fail "b"
  · repeat fail
    exact no fun z => by omega
  repeat fail
  refine comp_filtT w.cps.toList sg (fun c => !decide (c ∈ digs.cps.toList)) sg (by rw [len_list]; omega) rfl ?_ (fun c hc => ?_) (fun c hc _ => ?_) ?_
  · repeat fail
    exact ⟨rfl, rfl⟩
  · repeat fail
    exact ⟨_, rfl, _, rfl, rfl, rfl⟩
  · repeat fail
    exact ⟨rfl, rfl⟩
  repeat fail
  refine q_neNil (pl_sg fun c hc => ha c (List.mem_filter.mp hc).1) ?_
  repeat fail
  have key : isDig w = decide ((w.cps.toList.filter fun c => !decide (c ∈ digs.cps.toList)).map sg = []) := by
    unfold isDig
    refine decide_eq_decide.mpr ?_
    rw [List.map_eq_nil_iff, List.filter_eq_nil_iff]
    simp
  fail "b"
  · repeat fail
    rename_i h
    exact no fun z => by
      rw [key] at z
      exact h (of_decide_eq_true z.2.2.1)
  have hd : isDig w = true := by
    rename_i h
    rw [key]
    exact decide_eq_true h
  repeat fail
  refine q_ch0 (by omega) h0 fun c r ec => ?_
  have hld : lead w = (decide (c = 48) && decide (1 < w.length)) := by
    unfold lead
    rw [ec]
    simp
  have e48 : decide ((⟨#[c]⟩ : Str) = "0") = decide (c = 48) := by
    refine decide_eq_decide.mpr ⟨fun h => ?_, fun h => by rw [h]; rfl⟩
    have := congrArg (fun x : Str => x.cps.toList) h
    have e2 : (("0" : Str).cps.toList) = [48] := by decide +kernel
    simpa [e2] using this
  repeat fail
  rw [e48]
  have rest : lead w = false → Gs (forS (signsM (varM 0)) (setD 2) (setS (opM addD (opM mulD (pureM (.int 10)) (varM 1)) (metM indexD (pureM (.str "0123456789")) (varM 2))) (setD 1))) ((slots 3 [D.str w]).set 1 (some (SV.val (D.int 0)))) st { nx := fun sl' st' => Gs (retS (varM 1)) sl' st' { nx := fun x st' => P D.non st', rt := P }, rt := P } := fun hl => by
    have en := numT_some h0 (by omega) hd hl
    rw [en] at q
    repeat fail
    refine gs_forT w.cps.toList sg (I := fun pre rest sl st' => (∃ a, sl = [some (.val (.str w)), some (.val (.int (NumText.digitsVal pre : Nat))), a]) ∧ st' = st) ?_ ?_ ?_
    · repeat fail
      exact ⟨rfl, ⟨_, rfl⟩, rfl⟩
    · rintro pre c rest sl st' e1 ⟨⟨a, rfl⟩, rfl⟩
      have hc := isDig_all hd c (by rw [e1]; simp)
      have hp : NumText.digitsVal pre < 10 ^ pre.length := val_lt _ fun x hx => isDig_all hd x (by rw [e1]; simp [hx])
      have hp2 : NumText.digitsVal pre < 10 ^ 40 := Nat.lt_of_lt_of_le hp (Nat.pow_le_pow_right (by decide) (by
        have := congrArg List.length e1
        rw [List.length_append, len_list] at this
        omega))
      have hv := val_snoc pre c
      refine gs_setD ?_
      repeat fail
      refine q_mul (by have := log40 (i := (NumText.digitsVal pre : Nat)) (by omega); have : (10 : Int).natAbs.log2 < 1000 := by decide +kernel
                       omega) ?_
      repeat fail
      refine ⟨_, idx_dig hc.1 hc.2, ?_⟩
      repeat fail
      have this : (10 : Int) * (NumText.digitsVal pre : Nat) + ((c - 48 : Nat) : Int) = ((NumText.digitsVal pre * 10 + (c - 48) : Nat) : Int) := by omega
      rw [this]
      exact ⟨⟨some (.val (sg c)), by rw [hv]; rfl⟩, rfl⟩
    · rintro sl st' ⟨⟨a, rfl⟩, rfl⟩
      repeat fail
      exact q
  fail "b"
  · rename_i h
    repeat fail
    fail "b"
    · rename_i h2
      repeat fail
      exact no fun z => by
        rw [hld] at z
        rw [decide_eq_true h, decide_eq_true (p := 1 < w.length) (by omega)] at z
        exact absurd z.2.2.2 (by decide)
    · rename_i h2
      repeat fail
      refine rest ?_
      rw [hld, decide_eq_false (p := 1 < w.length) (by omega), Bool.and_false]
  · rename_i h
    repeat fail
    refine rest ?_
    rw [hld, decide_eq_false h, Bool.false_and]
end Lw
namespace Lw
open PySem L2 Mir TL
local macro_rules | `(tactic| fail) => `(tactic| with_reducible first
  | refine ge_pure ?_ | refine ge_op ?_ | refine ge_un ?_ | refine ge_fn ?_ | refine ge_cons ?_ | refine ge_met ?_ | refine ge_call ?_ | refine ge_kw ?_ | refine ge_lst ?_ | refine ge_lstL ?_ | refine ge_tup ?_
  | refine ge_frz ?_ | refine ge_box ?_ | refine ge_exc ?_ | refine ge_dct1 ?_ | refine ge_slice ?_ | refine ge_part ?_ | refine ge_tru ?_ | refine ge_not ?_ | refine ge_and ?_ | refine ge_or ?_ | refine ge_ite ?_
  | refine ge_andB ?_ | refine ge_orB ?_ | refine ge_notB ?_ | refine ge_isB ?_ | refine ge_chain ?_ | refine ge_items ?_ | refine ge_itemsT ?_ | refine ge_signs ?_ | refine ge_rng1 ?_ | refine ge_rng2 ?_
  | refine gs_seq ?_ | refine gs_next ?_ | refine gs_cont ?_ | refine gs_brk ?_ | refine gs_retN ?_ | refine gs_ret ?_ | refine gs_expr ?_ | refine gs_if ?_ | refine gs_set ?_ | refine gs_par ?_ | refine gs_sub ?_)
local macro_rules | `(tactic| fail) => `(tactic| ((with_reducible show Ge (varM _) _ _ _ _); refine ge_varG ?_))
local macro_rules | `(tactic| fail "s") => `(tactic| first | omega | assumption | decide | (simp only [len_app]; omega) | decide +kernel)
local macro_rules | `(tactic| fail) => `(tactic| with_reducible first
  | refine q_addI ?_ | refine q_subI ?_ | refine q_ltI ?_ | refine q_leI ?_ | refine q_gtI ?_ | refine q_geI ?_ | refine q_eqI ?_ | refine q_neI ?_ | refine q_eqSS ?_ | refine q_neSS ?_ | refine q_eqS ?_ | refine q_neS ?_ | refine q_isN_non ?_ | refine q_isNN_non ?_ | refine q_isN_bl ?_ | refine q_isNN_bl ?_ | refine q_isN_int ?_ | refine q_isNN_int ?_ | refine q_isN_str ?_ | refine q_isNN_str ?_ | refine q_isN_lst ?_ | refine q_isNN_lst ?_ | refine q_isN_tup ?_ | refine q_isNN_tup ?_ | refine q_isN_ref ?_ | refine q_isNN_ref ?_ | refine q_isN_dct ?_ | refine q_isNN_dct ?_ | refine q_isN_exc ?_ | refine q_isNN_exc ?_
  | refine q_chLt ?_ | refine q_chLe ?_ | refine q_chGt ?_ | refine q_chGe ?_ | refine q_max ?_ | refine q_min ?_ | refine q_lenL ?_
  | refine q_truB ?_ | refine q_asB ?_ | refine q_asI ?_ | refine q_asS ?_ | refine q_asL ?_ | refine q_asT ?_ | refine q_pair ?_ | refine q_one ?_
  | refine br_t ?_ | refine br_f ?_ | refine br_nt ?_ | refine br_nf ?_
  | refine q_size (Nat.le_of_ble_eq_true (by with_unfolding_all rfl)) ?_ | refine q_nk (by with_unfolding_all rfl) (by with_unfolding_all rfl) ?_)
local macro_rules | `(tactic| fail) => `(tactic| with_reducible first
  | refine q_addS (by fail "s") ?_ | refine Mir.q_len (by fail "s") ?_ | refine Mir.q_cut (by fail "s") ?_ | refine q_mod (by fail "s") ?_ | refine q_in62 (by fail "s") (by fail "s") ?_)
local macro_rules | `(tactic| fail) => `(tactic| with_reducible first
  | refine br_dT (by omega) ?_ | refine br_dF (by omega) ?_ | refine br_ndT (by omega) ?_ | refine br_ndF (by omega) ?_)
local macro_rules | `(tactic| fail "b") => `(tactic| with_reducible first | refine br_d (fun _ => ?_) (fun _ => ?_) | refine br_nd (fun _ => ?_) (fun _ => ?_) | refine br_b (fun _ => ?_) (fun _ => ?_))
local macro_rules | `(tactic| fail) => `(tactic| ((with_reducible show Gf m__law_take _ _ _ _); refine take_isA (by assumption) (by omega) (by omega) (by omega) (fun _ _ _ _ _ => ?_)))
local macro_rules | `(tactic| fail) => `(tactic| with_reducible first | refine q_isi true (by with_unfolding_all rfl) (by decide +kernel) ?_ | refine q_isi false (by with_unfolding_all rfl) (by decide +kernel) ?_)
local macro_rules | `(tactic| fail) => `(tactic| with_reducible first | refine ge_btw ?_ | refine q_btwI ?_)
local macro_rules | `(tactic| fail) => `(tactic| ((with_reducible show Gf m_parse_integer _ _ _ _); refine pint_is (by omega) ?_))
theorem within_is {st : List Cell} {o : Option Nat} {lo hi : Int} {P : D → List Cell → Prop} (q : P (withinD o lo hi) st) : Gf m__law_within [numD o, .int lo, .int hi] st P noE := by
  refine gf_def rfl ?_
  cases o with
  | none =>
    unfold numD
    repeat fail
    exact q
  | some n =>
    unfold numD
    repeat fail
    refine br_b (fun h => ?_) fun h => ?_
    · repeat fail
      unfold withinD at q
      dsimp only at q
      rw [if_pos h] at q
      exact q
    · repeat fail
      unfold withinD at q
      dsimp only at q
      rw [if_neg (by rw [h]; exact Bool.false_ne_true)] at q
      exact q
theorem digits_is {st : List Cell} {k n : Nat} {P : D → List Cell → Prop} (h : Box st k (n + 100)) (q : ∀ w st', w.length ≤ 80 → Asc w → Box st' k n → P (.str w) st') : Gf m__law_digits [.ref k] st P noE := by
  refine gf_def rfl ?_
  repeat fail
  refine q_ixB 3 34 (by decide) (by omega) (by simp; omega) fun p p0 p1 => ?_
  repeat fail
  rename_i d st1 d0 d1 b1
  generalize hm : 1 + d = many
  refine ge_comp (I := fun items acc st' => ∃ ys : List Nat, acc = ys.map sg ∧ (∀ c ∈ ys, c < 128) ∧ ys.length + items.length ≤ 34 ∧ Box st' k (n + 40 + items.length)) rfl rfl ?_ ?_ ?_
  · repeat fail
    refine ⟨[], rfl, by simp, ?_, b1.mono ?_⟩
    · rw [rngL_len]
      simp
      omega
    · rw [rngL_len]
      omega
  · rintro e ds acc st' ⟨ys, rfl, hc, hl, hb⟩
    rw [List.length_cons] at hl hb
    repeat fail
    rename_i x st2 x0 x1 b2
    refine q_str (log40 (by omega)) ?_
    refine ⟨by rw [List.length_map, sizeLine_eq]; omega, ys ++ [48 + x.toNat], by rw [digit_text x0 x1]; simp, fun c hc2 => ?_, by rw [List.length_append, List.length_singleton]; omega, b2.mono (by omega)⟩
    rcases List.mem_append.mp hc2 with z | z
    · exact hc c z
    · rw [List.mem_singleton] at z
      omega
  · rintro acc st' ⟨ys, rfl, hc, hl, hb⟩
    rw [List.length_nil, Nat.add_zero] at hl hb
    repeat fail
    refine q_joinS (by omega) ?_
    have w0 : (⟨ys.toArray⟩ : Str).length ≤ 34 := by
      show ys.toArray.size ≤ 34
      simpa using hl
    have a0 : Asc ⟨ys.toArray⟩ := fun c z => hc c (by simpa using z)
    generalize (⟨ys.toArray⟩ : Str) = w at w0 a0
    clear hc hl
    repeat fail
    rename_i way st2 way0 way1 b2 at' st3 at0 at1 b3
    fail "b"
    · repeat fail
      have l1 := len_cut w none (some at')
      have l2 := len_cut w (some (at' + 1)) none
      refine q_signA 71 (by decide +kernel) (by decide) (by decide +kernel) (by assumption) (by assumption) fun c c1 _ => ?_
      have l3 : (⟨#[c]⟩ : Str).length = 1 := rfl
      repeat fail
      refine q _ _ ?_ ((a0.cut.app (Asc.one c1)).app a0.cut) (Box.mono (by assumption) (by omega))
      rw [len_app, len_app]
      omega
    · repeat fail
      fail "b"
      · repeat fail
        have la : ∀ (a : Str), a.length ≤ 3 → a.length + w.length ≤ 1000000 ∧ w.length + a.length ≤ 1000000 := fun a ha => by omega
        refine q_addS (la _ (by decide +kernel)).1 ?_
        repeat fail
        refine q_addS (la _ (by decide +kernel)).2 ?_
        repeat fail
        refine q_addS (la _ (by decide +kernel)).1 ?_
        repeat fail
        refine q_addS (la _ (by decide +kernel)).1 ?_
        repeat fail
        refine q_addS (la _ (by decide +kernel)).2 ?_
        repeat fail
        refine q_addS (la _ (by decide +kernel)).1 ?_
        repeat fail
        refine q_ixL (by assumption) (by simp; omega) fun x hx => ?_
        have key : ∃ y : Str, x = .str y ∧ y.length ≤ 40 ∧ Asc y := by
          have one : ∀ a : Str, a.length ≤ 3 → Asc a → (w ++ a).length ≤ 40 ∧ (a ++ w).length ≤ 40 ∧ Asc (w ++ a) ∧ Asc (a ++ w) := fun a ha hc => by
            rw [len_app, len_app]
            exact ⟨by omega, by omega, a0.app hc, hc.app a0⟩
          have as : ∀ a ∈ (["", "0", "00", " ", "-", "\n"] : List Str), a.length ≤ 3 ∧ Asc a := by
            unfold Asc
            decide +kernel
          simp only [List.mem_cons, List.not_mem_nil, or_false] at hx
          have t := fun a h => one a (as a h).1 (as a h).2
          have s := fun a h => (⟨by have := (as a h).1; omega, (as a h).2⟩ : a.length ≤ 40 ∧ Asc a)
          rcases hx with rfl | rfl | rfl | rfl | rfl | rfl | rfl | rfl | rfl
          · exact ⟨_, rfl, s _ (by simp)⟩
          · exact ⟨_, rfl, s _ (by simp)⟩
          · exact ⟨_, rfl, s _ (by simp)⟩
          · exact ⟨_, rfl, (t "0" (by simp)).2.1, (t "0" (by simp)).2.2.2⟩
          · exact ⟨_, rfl, (t " " (by simp)).1, (t " " (by simp)).2.2.1⟩
          · exact ⟨_, rfl, (t " " (by simp)).2.1, (t " " (by simp)).2.2.2⟩
          · exact ⟨_, rfl, (t "-" (by simp)).2.1, (t "-" (by simp)).2.2.2⟩
          · exact ⟨_, rfl, (t "\n" (by simp)).1, (t "\n" (by simp)).2.2.1⟩
          · exact ⟨_, rfl, (t "\n" (by simp)).2.1, (t "\n" (by simp)).2.2.2⟩
        obtain ⟨y, rfl, y1, y2⟩ := key
        repeat fail
        exact q y _ (by omega) y2 (Box.mono (by assumption) (by omega))
      · repeat fail
        exact q w _ (by omega) a0 (Box.mono b3 (by omega))
end Lw
namespace Lw
open PySem L2 Mir TL
local macro_rules | `(tactic| fail) => `(tactic| with_reducible first
  | refine ge_pure ?_ | refine ge_op ?_ | refine ge_un ?_ | refine ge_fn ?_ | refine ge_cons ?_ | refine ge_met ?_ | refine ge_call ?_ | refine ge_kw ?_ | refine ge_lst ?_ | refine ge_lstL ?_ | refine ge_tup ?_
  | refine ge_frz ?_ | refine ge_box ?_ | refine ge_exc ?_ | refine ge_dct1 ?_ | refine ge_slice ?_ | refine ge_part ?_ | refine ge_tru ?_ | refine ge_not ?_ | refine ge_and ?_ | refine ge_or ?_ | refine ge_ite ?_
  | refine ge_andB ?_ | refine ge_orB ?_ | refine ge_notB ?_ | refine ge_isB ?_ | refine ge_chain ?_ | refine ge_items ?_ | refine ge_itemsT ?_ | refine ge_signs ?_ | refine ge_rng1 ?_ | refine ge_rng2 ?_
  | refine gs_seq ?_ | refine gs_next ?_ | refine gs_cont ?_ | refine gs_brk ?_ | refine gs_retN ?_ | refine gs_ret ?_ | refine gs_expr ?_ | refine gs_if ?_ | refine gs_set ?_ | refine gs_par ?_ | refine gs_sub ?_)
local macro_rules | `(tactic| fail) => `(tactic| ((with_reducible show Ge (varM _) _ _ _ _); refine ge_varG ?_))
local macro_rules | `(tactic| fail "s") => `(tactic| first | omega | assumption | decide | (simp only [len_app]; omega) | decide +kernel)
local macro_rules | `(tactic| fail) => `(tactic| with_reducible first
  | refine q_addI ?_ | refine q_subI ?_ | refine q_ltI ?_ | refine q_leI ?_ | refine q_gtI ?_ | refine q_geI ?_ | refine q_eqI ?_ | refine q_neI ?_ | refine q_eqSS ?_ | refine q_neSS ?_ | refine q_eqS ?_ | refine q_neS ?_ | refine q_isN_non ?_ | refine q_isNN_non ?_ | refine q_isN_bl ?_ | refine q_isNN_bl ?_ | refine q_isN_int ?_ | refine q_isNN_int ?_ | refine q_isN_str ?_ | refine q_isNN_str ?_ | refine q_isN_lst ?_ | refine q_isNN_lst ?_ | refine q_isN_tup ?_ | refine q_isNN_tup ?_ | refine q_isN_ref ?_ | refine q_isNN_ref ?_ | refine q_isN_dct ?_ | refine q_isNN_dct ?_ | refine q_isN_exc ?_ | refine q_isNN_exc ?_
  | refine q_chLt ?_ | refine q_chLe ?_ | refine q_chGt ?_ | refine q_chGe ?_ | refine q_max ?_ | refine q_min ?_ | refine q_lenL ?_
  | refine q_truB ?_ | refine q_asB ?_ | refine q_asI ?_ | refine q_asS ?_ | refine q_asL ?_ | refine q_asT ?_ | refine q_pair ?_ | refine q_one ?_
  | refine br_t ?_ | refine br_f ?_ | refine br_nt ?_ | refine br_nf ?_
  | refine q_size (Nat.le_of_ble_eq_true (by with_unfolding_all rfl)) ?_ | refine q_nk (by with_unfolding_all rfl) (by with_unfolding_all rfl) ?_)
local macro_rules | `(tactic| fail) => `(tactic| with_reducible first
  | refine q_addS (by fail "s") ?_ | refine Mir.q_len (by fail "s") ?_ | refine Mir.q_cut (by fail "s") ?_ | refine q_mod (by fail "s") ?_ | refine q_in62 (by fail "s") (by fail "s") ?_)
local macro_rules | `(tactic| fail) => `(tactic| with_reducible first
  | refine br_dT (by omega) ?_ | refine br_dF (by omega) ?_ | refine br_ndT (by omega) ?_ | refine br_ndF (by omega) ?_)
local macro_rules | `(tactic| fail "b") => `(tactic| with_reducible first | refine br_d (fun _ => ?_) (fun _ => ?_) | refine br_nd (fun _ => ?_) (fun _ => ?_) | refine br_b (fun _ => ?_) (fun _ => ?_))
local macro_rules | `(tactic| fail) => `(tactic| ((with_reducible show Gf m__law_take _ _ _ _); refine take_isA (by assumption) (by omega) (by omega) (by omega) (fun _ _ _ _ _ => ?_)))
local macro_rules | `(tactic| fail) => `(tactic| with_reducible first | refine q_isi true (by with_unfolding_all rfl) (by decide +kernel) ?_ | refine q_isi false (by with_unfolding_all rfl) (by decide +kernel) ?_)
local macro_rules | `(tactic| fail) => `(tactic| with_reducible first | refine ge_btw ?_ | refine q_btwI ?_)
local macro_rules | `(tactic| fail) => `(tactic| ((with_reducible show Gf m_parse_integer _ _ _ _); refine pint_is (by omega) ?_))
theorem numT_text {n : Nat} (h : n < 10 ^ 30) : numT (Str.ofString (toString (n : Int))) = some n := by
  have t : (Str.ofString (toString (n : Int))).cps.toList = numL n := tl_num n
  have hd : isDig (Str.ofString (toString (n : Int))) = true := by
    unfold isDig
    rw [t]
    exact decide_eq_true fun c hc => (digs_mem c).mpr (numL_digits n c hc)
  have hl : (Str.ofString (toString (n : Int))).length ≤ 30 := by
    rw [← len_list, t]
    exact numL_len (by decide) h
  have h0 : 0 < (Str.ofString (toString (n : Int))).length := by
    rw [← len_list, t]
    exact List.length_pos_iff.mpr (numL_ne n)
  have v : NumText.digitsVal (Str.ofString (toString (n : Int))).cps.toList = n := by rw [t, numL_val]
  have ld := (text_back hd h0).mp (by rw [v])
  rw [numT_some h0 hl hd ld, v]
theorem numT_small {w : Str} {n : Nat} (h : numT w = some n) : n < 10 ^ 30 := by
  by_cases z : 0 < w.length ∧ w.length ≤ 30 ∧ isDig w = true ∧ lead w = false
  · rw [numT_some z.1 z.2.1 z.2.2.1 z.2.2.2] at h
    cases h
    exact val_small z.2.2.1 z.2.1
  · rw [numT_none z] at h
    cases h
theorem ok_num {o : Option Nat} (h : ∀ n, o = some n → n < 10 ^ 30) : okP (numD o) ∧ dep (numD o) = 0 ∧ wtD (numD o) = 0 := by
  cases o with
  | none => exact ⟨by simp [numD, okP], rfl, rfl⟩
  | some n =>
    have := h n rfl
    refine ⟨?_, rfl, rfl⟩
    simp only [numD, okP]
    omega
theorem ok_within {o : Option Nat} {lo hi : Int} (h : ∀ n, o = some n → n < 10 ^ 30) : okP (withinD o lo hi) ∧ dep (withinD o lo hi) = 0 ∧ wtD (withinD o lo hi) = 0 := by
  cases o with
  | none => exact ⟨by simp [withinD, okP], rfl, rfl⟩
  | some n =>
    unfold withinD
    dsimp only
    by_cases z : between lo n hi = true
    · rw [if_pos z]
      exact ok_num (o := some n) h
    · rw [if_neg z]
      exact ⟨by simp [okP], rfl, rfl⟩
theorem within_all {o : Option Nat} {far : Int} (h : ∀ n, o = some n → n < 10 ^ 30) (hf : far = 10 ^ 30 - 1) : withinD o (0 - far) far = numD o := by
  cases o with
  | none => rfl
  | some n =>
    have := h n rfl
    unfold withinD
    dsimp only
    rw [if_pos]
    · rfl
    · unfold between
      rw [decide_eq_true (by omega), decide_eq_true (by omega)]
      rfl
theorem sh0 {x : D} (h : okP x ∧ dep x = 0 ∧ wtD x = 0) : Sh x := ⟨h.1, by omega, by omega⟩
theorem sh_lst0 {xs : List D} (h : ∀ x ∈ xs, okP x ∧ dep x = 0 ∧ wtD x = 0) (hl : xs.length ≤ 1000) : Sh (.lst xs) := by
  refine ⟨by simp only [okP]; exact okPL_all.mpr fun x hx => (h x hx).1, ?_, ?_⟩
  · simp only [dep]
    rw [depL_0 fun x hx => (h x hx).2.1]
    decide
  · simp only [wtD]
    have := wtL_le (w := 0) (ds := xs) fun x hx => by rw [(h x hx).2.2]; exact Nat.le_refl 0
    omega
theorem within_int {st : List Cell} {n : Nat} {lo hi : Int} {P : D → List Cell → Prop} (q : P (withinD (some n) lo hi) st) : Gf m__law_within [.int n, .int lo, .int hi] st P noE := within_is (o := some n) q
theorem pow30 {st : List Cell} {Q : D → Prop} (q : Q (.int 1000000000000000000000000000000)) : ∃ d, ii iPow st (.int 10) (.int 30) = some d ∧ Q d := q_pow ⟨by decide, by decide, by decide +kernel⟩ q
local macro_rules | `(tactic| fail) => `(tactic| with_reducible refine pow30 ?_)
local macro_rules | `(tactic| fail) => `(tactic| ((with_reducible show Gf m__law_within _ _ _ _); first | refine within_is ?_ | refine within_int ?_))
theorem numbers_right {st : List Cell} {k n : Nat} {P : D → List Cell → Prop} (h : Box st k (n + 200)) (q : ∀ st', Box st' k n → P (.bl true) st') : Gf m__law_numbers_right [.ref k] st P noE := by
  refine gf_def rfl ?_
  repeat fail
  refine digits_is (n := n + 100) h fun w st1 wl wa b1 => ?_
  repeat fail
  refine number_is (by omega) wa ?_
  have ho : ∀ n, numT w = some n → n < 10 ^ 30 := fun n => numT_small
  generalize hN : numT w = o at ho
  refine gs_seq (gs_set (Ge.mono (P := fun d st' => st' = st1 ∧ ∃ i, d = .int i ∧ 0 ≤ i ∧ i ≤ 1000000000000000000000000000000) (E := noE) ?_ (fun d st' h => ?_) fun _ _ z => z.elim))
  · cases o with
    | none =>
      unfold numD
      repeat fail
      exact ⟨rfl, _, rfl, by decide, by decide⟩
    | some n =>
      have := ho n rfl
      unfold numD
      repeat fail
      refine ⟨rfl, _, rfl, ?_, ?_⟩
      · split <;> omega
      · split <;> omega
  obtain ⟨rfl, near, rfl, n0, n1⟩ := h
  have sn := sh0 (ok_num ho)
  have sw := fun lo hi => sh0 (ok_within (lo := lo) (hi := hi) ho)
  repeat fail
  rw [hN, within_all (far := 1000000000000000000000000000000 - 1) ho (by decide +kernel)]
  refine q_repr sn ?_
  repeat fail
  refine q_repr sn ?_
  repeat fail
  rename_i e1 st2 e10 e11 b2 e2 st3 e20 e21 b3
  rw [hN]
  generalize near - 2 + e1 = L
  generalize near - 2 + e2 = U
  have s3 : ∀ a b c d e f : Int, Sh (.lst [withinD o a b, withinD o c d, withinD o e f]) := fun a b c d e f => sh_lst0 (fun x hx => by
    simp only [List.mem_cons, List.not_mem_nil, or_false] at hx
    rcases hx with rfl | rfl | rfl <;> exact ok_within ho) (Nat.le_of_ble_eq_true rfl)
  refine q_repr (s3 ..) ?_
  repeat fail
  refine q_repr (s3 ..) ?_
  repeat fail
  rw [hN]
  refine q_repr (sw ..) ?_
  repeat fail
  refine q_repr (sw ..) ?_
  repeat fail
  generalize hfar : (1000000000000000000000000000000 - 1 : Int) = far
  refine gs_for (I := fun items sl st' => (∃ a b : Option SV, sl = [some (.val (.ref k)), some (.val (.str w)), a, some (.val (.int near)), some (.val (.int far)), some (.val (.int L)), some (.val (.int U)), some (.val (.lst [withinD o 0 999999, withinD o L U, withinD o 0 U])), some (.val (.lst [withinD o 0 999999, withinD o L U, withinD o 0 U])), b, none]) ∧ Box st' k n ∧ ∀ d ∈ items, ∃ x : Nat, x ≤ 1000000 ∧ d = .int x) ?_ ?_ ?_
  · repeat fail
    rename_i d4 st4 d40 d41 b4
    refine ⟨⟨_, _, rfl⟩, b4.mono (by omega), fun d hd => ?_⟩
    simp only [List.mem_cons, List.not_mem_nil, or_false] at hd
    rcases hd with rfl | rfl | rfl | rfl | rfl | rfl | rfl | rfl | rfl | rfl | rfl
    · exact ⟨0, by omega, rfl⟩
    · exact ⟨1, by omega, rfl⟩
    · exact ⟨9, by omega, rfl⟩
    · exact ⟨10, by omega, rfl⟩
    · exact ⟨999, by omega, rfl⟩
    · exact ⟨1000, by omega, rfl⟩
    · exact ⟨99999, by omega, rfl⟩
    · exact ⟨100000, by omega, rfl⟩
    · exact ⟨999999, by omega, rfl⟩
    · exact ⟨1000000, by omega, rfl⟩
    · exact ⟨d4.toNat, by omega, by rw [show ((d4.toNat : Nat) : Int) = d4 by omega]⟩
  · rintro d ds sl st' ⟨⟨a, b, rfl⟩, bx, hi⟩
    obtain ⟨x, hx, rfl⟩ := hi d (List.mem_cons_self ..)
    have hx30 : x < 10 ^ 30 := by
      have : (1000000 : Nat) < 10 ^ 30 := by decide
      omega
    have sx : ∀ lo hi, Sh (withinD (some x) lo hi) := fun lo hi => sh0 (ok_within fun n e => by cases e; exact hx30)
    have lx : (Str.ofString (toString (x : Int))).length ≤ 30 := by
      rw [← len_list]
      have t : (Str.ofString (toString (x : Int))).cps.toList = numL x := tl_num x
      rw [t]
      exact numL_len (by decide) hx30
    refine gs_setD ?_
    repeat fail
    refine q_str (log40 (by omega)) ?_
    repeat fail
    rw [numT_text hx30]
    refine q_repr (sx ..) ?_
    repeat fail
    refine q_repr (sx ..) ?_
    repeat fail
    exact ⟨⟨_, _, rfl⟩, bx, fun d hd => hi d (List.mem_cons_of_mem _ hd)⟩
  · rintro sl st' ⟨⟨a, b, rfl⟩, bx, _⟩
    repeat fail
    refine ⟨_, rfl, ?_⟩
    repeat fail
    refine ⟨.str (strRep "7" 3000), ?_, ?_⟩
    · unfold mulD
      dsimp only
      rw [if_pos ⟨by decide, by decide, by rw [sizeLine_eq]; decide⟩]
      rfl
    have l7 : (strRep "7" 3000).length = 3000 := by decide +kernel
    generalize strRep "7" 3000 = s7 at l7
    repeat fail
    refine comp_filtT [D.non, .bl true, .int 7, .lst [.str "7"], .tup [.str "7"], .dct [.inr "7"] [.int 7], .str s7, .str "", .exc "InvalidText" ["value"] [.str "7"]] id (fun _ => false) id (Nat.le_of_ble_eq_true rfl) rfl ?_ (fun d hd => ?_) (fun d hd z => by cases z) ?_
    · repeat fail
      exact ⟨rfl, rfl⟩
    · have key : (∃ z, d = .str z ∧ numT z = none ∧ z.length ≤ 100000) ∨ ∃ t, tagOf st' d = some t ∧ kt t (.b "str") = some false := by
        simp only [List.mem_cons, List.not_mem_nil, or_false] at hd
        rcases hd with rfl | rfl | rfl | rfl | rfl | rfl | rfl | rfl | rfl
        · exact .inr ⟨_, rfl, by decide +kernel⟩
        · exact .inr ⟨_, rfl, by decide +kernel⟩
        · exact .inr ⟨_, rfl, by decide +kernel⟩
        · exact .inr ⟨_, rfl, by decide +kernel⟩
        · exact .inr ⟨_, rfl, by decide +kernel⟩
        · exact .inr ⟨_, rfl, by decide +kernel⟩
        · exact .inl ⟨_, rfl, numT_none fun z => by omega, by omega⟩
        · exact .inl ⟨_, rfl, numT_none fun z => by have : ("" : Str).length = 0 := rfl
                                                    omega, by decide +kernel⟩
        · exact .inr ⟨_, rfl, by decide +kernel⟩
      repeat fail
      rcases key with ⟨z, rfl, z1, z2⟩ | ⟨t, e1, e2⟩
      · show Gf m_parse_integer [.str z, _, _] _ _ _
        repeat fail
        rw [z1]
        show ∃ d, fIsN st' .non .non = some d ∧ _
        repeat fail
        exact ⟨rfl, rfl⟩
      · refine pint_not e1 e2 ?_
        repeat fail
        exact ⟨rfl, rfl⟩
    · repeat fail
      show ∃ d, fEq st' (.lst []) (.lst []) = some d ∧ _
      refine q_eqSame ⟨by simp [okP, okPL], by simp [dep, depL]⟩ ?_
      exact q _ bx
end Lw
namespace Lw
open PySem L2 Mir TL
local macro_rules | `(tactic| fail) => `(tactic| with_reducible first
  | refine ge_pure ?_ | refine ge_op ?_ | refine ge_un ?_ | refine ge_fn ?_ | refine ge_cons ?_ | refine ge_met ?_ | refine ge_call ?_ | refine ge_kw ?_ | refine ge_lst ?_ | refine ge_lstL ?_ | refine ge_tup ?_
  | refine ge_frz ?_ | refine ge_box ?_ | refine ge_exc ?_ | refine ge_dct1 ?_ | refine ge_slice ?_ | refine ge_part ?_ | refine ge_tru ?_ | refine ge_not ?_ | refine ge_and ?_ | refine ge_or ?_ | refine ge_ite ?_
  | refine ge_andB ?_ | refine ge_orB ?_ | refine ge_notB ?_ | refine ge_isB ?_ | refine ge_chain ?_ | refine ge_items ?_ | refine ge_itemsT ?_ | refine ge_signs ?_ | refine ge_rng1 ?_ | refine ge_rng2 ?_
  | refine gs_seq ?_ | refine gs_next ?_ | refine gs_cont ?_ | refine gs_brk ?_ | refine gs_retN ?_ | refine gs_ret ?_ | refine gs_expr ?_ | refine gs_if ?_ | refine gs_set ?_ | refine gs_par ?_ | refine gs_sub ?_)
local macro_rules | `(tactic| fail) => `(tactic| ((with_reducible show Ge (varM _) _ _ _ _); refine ge_varG ?_))
local macro_rules | `(tactic| fail "s") => `(tactic| first | omega | assumption | decide | (simp only [len_app]; omega) | decide +kernel)
local macro_rules | `(tactic| fail) => `(tactic| with_reducible first
  | refine q_addI ?_ | refine q_subI ?_ | refine q_ltI ?_ | refine q_leI ?_ | refine q_gtI ?_ | refine q_geI ?_ | refine q_eqI ?_ | refine q_neI ?_ | refine q_eqSS ?_ | refine q_neSS ?_ | refine q_eqS ?_ | refine q_neS ?_ | refine q_isN_non ?_ | refine q_isNN_non ?_ | refine q_isN_bl ?_ | refine q_isNN_bl ?_ | refine q_isN_int ?_ | refine q_isNN_int ?_ | refine q_isN_str ?_ | refine q_isNN_str ?_ | refine q_isN_lst ?_ | refine q_isNN_lst ?_ | refine q_isN_tup ?_ | refine q_isNN_tup ?_ | refine q_isN_ref ?_ | refine q_isNN_ref ?_ | refine q_isN_dct ?_ | refine q_isNN_dct ?_ | refine q_isN_exc ?_ | refine q_isNN_exc ?_
  | refine q_chLt ?_ | refine q_chLe ?_ | refine q_chGt ?_ | refine q_chGe ?_ | refine q_max ?_ | refine q_min ?_ | refine q_lenL ?_
  | refine q_truB ?_ | refine q_asB ?_ | refine q_asI ?_ | refine q_asS ?_ | refine q_asL ?_ | refine q_asT ?_ | refine q_pair ?_ | refine q_one ?_
  | refine br_t ?_ | refine br_f ?_ | refine br_nt ?_ | refine br_nf ?_
  | refine q_size (Nat.le_of_ble_eq_true (by with_unfolding_all rfl)) ?_ | refine q_nk (by with_unfolding_all rfl) (by with_unfolding_all rfl) ?_)
local macro_rules | `(tactic| fail) => `(tactic| with_reducible first
  | refine q_addS (by fail "s") ?_ | refine Mir.q_len (by fail "s") ?_ | refine Mir.q_cut (by fail "s") ?_ | refine q_mod (by fail "s") ?_ | refine q_in62 (by fail "s") (by fail "s") ?_)
local macro_rules | `(tactic| fail) => `(tactic| with_reducible first
  | refine br_dT (by omega) ?_ | refine br_dF (by omega) ?_ | refine br_ndT (by omega) ?_ | refine br_ndF (by omega) ?_)
local macro_rules | `(tactic| fail "b") => `(tactic| with_reducible first | refine br_d (fun _ => ?_) (fun _ => ?_) | refine br_nd (fun _ => ?_) (fun _ => ?_) | refine br_b (fun _ => ?_) (fun _ => ?_))
local macro_rules | `(tactic| fail) => `(tactic| with_reducible first
  | refine ge_append ?_ | refine ge_splitL ?_ | refine ge_wkL ?_ | refine ge_itemsW ?_ | refine q_wkL ?_ | refine q_all ?_ | refine q_any ?_ | refine q_inC ?_)
local macro_rules | `(tactic| fail) => `(tactic| ((with_reducible show Gf m__law_take _ _ _ _); refine take_isA (by assumption) (by omega) (by omega) (by omega) (fun _ _ _ _ _ => ?_)))
local macro_rules | `(tactic| fail) => `(tactic| with_reducible first | refine q_isi true (by with_unfolding_all rfl) (by decide +kernel) ?_ | refine q_isi false (by with_unfolding_all rfl) (by decide +kernel) ?_)
local macro_rules | `(tactic| fail) => `(tactic| with_reducible first | refine ge_btw ?_ | refine q_btwI ?_)
local macro_rules | `(tactic| fail) => `(tactic| ((with_reducible show Gf m_parse_integer _ _ _ _); refine pint_is (by omega) ?_))
/-! ### words of a text -/
def toS (l : List Nat) : Str := ⟨l.toArray⟩
def wordsL (w : Str) (c : Nat) : List Str := (parts c [] (w.cps.toList ++ [c])).map toS
def good (w : Str) (c : Nat) : Prop := 10 ∉ w.cps.toList ∧ ("" : Str) ∉ wordsL w c
theorem parts_mem {c : Nat} : ∀ (cs acc l : List Nat), l ∈ parts c acc cs → ∀ d ∈ l, d ∈ acc ∨ d ∈ cs
  | [], acc, l, h, _, _ => by cases h
  | e :: cs, acc, l, h, d, hd => by
    unfold parts at h
    by_cases z : e = c
    · rw [if_pos z] at h
      rcases List.mem_cons.mp h with rfl | h
      · exact .inl hd
      · rcases parts_mem cs [] l h d hd with z | z
        · cases z
        · exact .inr (List.mem_cons_of_mem _ z)
    · rw [if_neg z] at h
      rcases parts_mem cs _ l h d hd with z | z
      · rcases List.mem_append.mp z with z | z
        · exact .inl z
        · rw [List.mem_singleton] at z
          exact .inr (by rw [z]; exact List.mem_cons_self ..)
      · exact .inr (List.mem_cons_of_mem _ z)
theorem parts_len {c : Nat} : ∀ (cs acc : List Nat), (parts c acc cs).length ≤ cs.length ∧ ∀ l ∈ parts c acc cs, l.length ≤ acc.length + cs.length
  | [], acc => ⟨Nat.le_refl _, fun l h => by cases h⟩
  | e :: cs, acc => by
    unfold parts
    by_cases z : e = c
    · rw [if_pos z]
      obtain ⟨h1, h2⟩ := parts_len (c := c) cs []
      refine ⟨by rw [List.length_cons, List.length_cons]; omega, fun l hl => ?_⟩
      rw [List.length_cons]
      rcases List.mem_cons.mp hl with rfl | hl
      · omega
      · have := h2 l hl
        rw [List.length_nil] at this
        omega
    · rw [if_neg z]
      obtain ⟨h1, h2⟩ := parts_len (c := c) cs (acc ++ [e])
      refine ⟨by rw [List.length_cons]; omega, fun l hl => ?_⟩
      have := h2 l hl
      rw [List.length_append, List.length_singleton] at this
      rw [List.length_cons]
      omega
theorem words_asc {w : Str} {c : Nat} (ha : Asc w) (hc : c < 128) : ∀ x ∈ wordsL w c, Asc x := fun x hx d hd => by
  obtain ⟨l, hl, rfl⟩ := List.mem_map.mp hx
  rcases parts_mem _ _ _ hl d (by simpa [toS] using hd) with z | z
  · cases z
  · rcases List.mem_append.mp z with z | z
    · exact ha d z
    · rw [List.mem_singleton] at z
      rw [z]
      exact hc
theorem words_len {w : Str} {c : Nat} : (wordsL w c).length ≤ w.length + 1 ∧ ∀ x ∈ wordsL w c, x.length ≤ w.length + 1 := by
  obtain ⟨h1, h2⟩ := parts_len (c := c) (w.cps.toList ++ [c]) []
  rw [List.length_append, List.length_singleton, len_list] at h1 h2
  refine ⟨by unfold wordsL; rw [List.length_map]; exact h1, fun x hx => ?_⟩
  obtain ⟨l, hl, rfl⟩ := List.mem_map.mp hx
  have := h2 l hl
  rw [List.length_nil] at this
  show l.toArray.size ≤ _
  rw [List.size_toArray]
  omega
theorem sg_str (c : Nat) : (sg c) = D.str ⟨#[c]⟩ := rfl
theorem split_is {st : List Cell} {w : Str} {c : Nat} {P : D → List Cell → Prop} (hl : w.length ≤ 100000) (ha : Asc w) (hc : c < 128) (hg : good w c → P (.ref st.length) (st ++ [.lst ((wordsL w c).map D.str)])) (hb : ¬ good w c → ∀ r, P .non (st ++ r)) : Gf m_split_words [.str w, sg c] st P noE := by
  refine gf_def rfl ?_
  repeat fail
  refine q_count (c := 10) fun n hn => ?_
  repeat fail
  fail "b"
  · rename_i h
    repeat fail
    have := hb (fun z => z.1 (hn.mp h)) []
    rw [List.append_nil] at this
    exact this
  · rename_i h
    have h10 : 10 ∉ w.cps.toList := fun z => h (hn.mpr z)
    repeat fail
    refine ⟨rfl, by rw [sizeLine_eq]; omega, ?_⟩
    rw [split_parts ha hc, List.map_map]
    have ew : List.map (D.str ∘ fun l => (⟨l.toArray⟩ : Str)) (parts c [] (w.cps.toList ++ [c])) = (wordsL w c).map D.str := by
      unfold wordsL
      rw [List.map_map]
      rfl
    rw [ew]
    have wl := words_len (w := w) (c := c)
    have es : (st ++ [Cell.lst ((wordsL w c).map D.str)])[st.length]? = some (.lst ((wordsL w c).map D.str)) := by
      rw [List.getElem?_append_right (Nat.le_refl _), Nat.sub_self]
      rfl
    repeat fail
    refine comp_mapW (wordsL w c) D.str (fun x => D.bl (!decide (x = ""))) (by omega) rfl ?_ (fun x hx => ?_) ?_
    · repeat fail
      exact .inr ⟨_, _, rfl, es, walks_ref _ _ _ rfl _ fun s h => by rw [h]; exact es, rfl⟩
    · repeat fail
      exact ⟨rfl, rfl⟩
    repeat fail
    have ea : ((wordsL w c).all fun x => !decide (x = "")) = decide (("" : Str) ∉ wordsL w c) := by
      rw [Bool.eq_iff_iff, List.all_eq_true, decide_eq_true_eq]
      constructor
      · intro h z
        simpa using h ("" : Str) z
      · intro h x hx
        have : ¬ x = "" := fun z => h (by rw [← z]; exact hx)
        simp [this]
    rw [ea]
    fail "b"
    · rename_i h
      repeat fail
      exact hg ⟨h10, h⟩
    · rename_i h
      repeat fail
      exact hb (fun z => h z.2) _
theorem split_not {st : List Cell} {x y : D} {t : Ty} {P : D → List Cell → Prop} (h1 : tagOf st x = some t) (h2 : kt t (.b "str") = some false) (q : P .non st) : Gf m_split_words [x, y] st P noE := by
  refine gf_def rfl ?_
  repeat fail
  refine q_isi false h1 h2 ?_
  repeat fail
  exact q
theorem toS_snoc (acc : List Nat) (d : Nat) : toS acc ++ (⟨#[d]⟩ : Str) = toS (acc ++ [d]) := by
  unfold toS
  show (⟨acc.toArray ++ #[d]⟩ : Str) = _
  simp
theorem sg_inj {a b : Nat} : ((⟨#[a]⟩ : Str) = ⟨#[b]⟩) ↔ a = b := by
  constructor
  · intro h
    have := congrArg (fun x : Str => x.cps.toList) h
    simpa using this
  · intro h
    rw [h]
theorem parted_is {st : List Cell} {w : Str} {c : Nat} {P : D → List Cell → Prop} (hl : w.length ≤ 100000) (ha : Asc w) (hc : c < 128) (hg : good w c → P (.ref st.length) (st ++ [.lst ((wordsL w c).map D.str)])) (hb : ¬ good w c → ∀ r, P .non (st ++ r)) : Gf m__law_parted [.str w, sg c] st P noE := by
  refine gf_def rfl ?_
  repeat fail
  have ll : (w ++ (⟨#[c]⟩ : Str)).cps.toList = w.cps.toList ++ [c] := by
    show (w.cps ++ #[c]).toList = _
    simp
  refine gs_forT (w.cps.toList ++ [c]) sg (I := fun pre rest sl st' => ∃ done acc, parts c [] (w.cps.toList ++ [c]) = done ++ parts c acc rest ∧ st' = st ++ [.lst ((done.map toS).map D.str)] ∧ done.length ≤ pre.length ∧ acc.length ≤ pre.length ∧ ∃ a, sl = [some (.val (.str w)), some (.val (sg c)), some (.val (.ref st.length)), some (.val (.str (toS acc))), a]) ?_ ?_ ?_
  · repeat fail
    refine q_addS (by show w.length + 1 ≤ _; omega) ?_
    repeat fail
    refine ⟨?_, [], [], rfl, rfl, by simp, by simp, _, rfl⟩
    unfold signsL
    rw [ll]
  · rintro pre d rest sl st' e1 ⟨done, acc, e2, rfl, l1, l2, a, rfl⟩
    have len : pre.length < w.length + 1 := by
      have := congrArg List.length e1
      rw [List.length_append, List.length_append, List.length_singleton, len_list, List.length_cons] at this
      omega
    refine gs_setD ?_
    repeat fail
    have esg : decide ((⟨#[d]⟩ : Str) = ⟨#[c]⟩) = decide (d = c) := decide_eq_decide.mpr sg_inj
    rw [esg]
    have es : (st ++ [Cell.lst ((done.map toS).map D.str)])[st.length]? = some (.lst ((done.map toS).map D.str)) := by
      rw [List.getElem?_append_right (Nat.le_refl _), Nat.sub_self]
      rfl
    fail "b"
    · rename_i h
      repeat fail
      refine q_app es ?_
      repeat fail
      refine q_app2 es (by rw [List.length_map, List.length_map]; omega) ?_
      repeat fail
      refine ⟨done ++ [acc], [], ?_, ?_, by rw [List.length_append, List.length_append]; simp; omega, by simp, _, rfl⟩
      · rw [e2]
        subst h
        simp [parts]
      · rw [List.set_append_right _ _ (Nat.le_refl _), Nat.sub_self]
        simp
    · rename_i h
      repeat fail
      refine q_addS (by show acc.toArray.size + 1 ≤ _; rw [List.size_toArray]; omega) ?_
      repeat fail
      refine ⟨done, acc ++ [d], ?_, rfl, by rw [List.length_append]; omega, by rw [List.length_append, List.length_append]; simp; omega, some (.val (sg d)), ?_⟩
      · rw [e2]
        simp [parts, h]
      · rw [toS_snoc]
        rfl
  · rintro sl st' ⟨done, acc, e2, rfl, l1, l2, a, rfl⟩
    have ed : done.map toS = wordsL w c := by
      unfold wordsL
      rw [e2]
      simp [parts]
    rw [ed]
    have es : (st ++ [Cell.lst ((wordsL w c).map D.str)])[st.length]? = some (.lst ((wordsL w c).map D.str)) := by
      rw [List.getElem?_append_right (Nat.le_refl _), Nat.sub_self]
      rfl
    repeat fail
    refine q_inC (c := 10) ?_
    repeat fail
    fail "b"
    · rename_i h
      repeat fail
      exact hb (fun z => z.1 h) _
    · rename_i h
      repeat fail
      refine q_inSR es (by decide +kernel) (fun x hx => strOk_asc (words_asc ha hc x hx)) ?_
      repeat fail
      fail "b"
      · rename_i h2
        repeat fail
        exact hb (fun z => z.2 h2) _
      · rename_i h2
        repeat fail
        exact hg ⟨h, h2⟩
end Lw
namespace Lw
open PySem L2 Mir TL
local macro_rules | `(tactic| fail) => `(tactic| with_reducible first
  | refine ge_pure ?_ | refine ge_op ?_ | refine ge_un ?_ | refine ge_fn ?_ | refine ge_cons ?_ | refine ge_met ?_ | refine ge_call ?_ | refine ge_kw ?_ | refine ge_lst ?_ | refine ge_lstL ?_ | refine ge_tup ?_
  | refine ge_frz ?_ | refine ge_box ?_ | refine ge_exc ?_ | refine ge_dct1 ?_ | refine ge_slice ?_ | refine ge_part ?_ | refine ge_tru ?_ | refine ge_not ?_ | refine ge_and ?_ | refine ge_or ?_ | refine ge_ite ?_
  | refine ge_andB ?_ | refine ge_orB ?_ | refine ge_notB ?_ | refine ge_isB ?_ | refine ge_chain ?_ | refine ge_items ?_ | refine ge_itemsT ?_ | refine ge_signs ?_ | refine ge_rng1 ?_ | refine ge_rng2 ?_
  | refine gs_seq ?_ | refine gs_next ?_ | refine gs_cont ?_ | refine gs_brk ?_ | refine gs_retN ?_ | refine gs_ret ?_ | refine gs_expr ?_ | refine gs_if ?_ | refine gs_set ?_ | refine gs_par ?_ | refine gs_sub ?_)
local macro_rules | `(tactic| fail) => `(tactic| ((with_reducible show Ge (varM _) _ _ _ _); refine ge_varG ?_))
local macro_rules | `(tactic| fail "s") => `(tactic| first | omega | assumption | decide | (simp only [len_app]; omega) | decide +kernel)
local macro_rules | `(tactic| fail) => `(tactic| with_reducible first
  | refine q_addI ?_ | refine q_subI ?_ | refine q_ltI ?_ | refine q_leI ?_ | refine q_gtI ?_ | refine q_geI ?_ | refine q_eqI ?_ | refine q_neI ?_ | refine q_eqSS ?_ | refine q_neSS ?_ | refine q_eqS ?_ | refine q_neS ?_ | refine q_isN_non ?_ | refine q_isNN_non ?_ | refine q_isN_bl ?_ | refine q_isNN_bl ?_ | refine q_isN_int ?_ | refine q_isNN_int ?_ | refine q_isN_str ?_ | refine q_isNN_str ?_ | refine q_isN_lst ?_ | refine q_isNN_lst ?_ | refine q_isN_tup ?_ | refine q_isNN_tup ?_ | refine q_isN_ref ?_ | refine q_isNN_ref ?_ | refine q_isN_dct ?_ | refine q_isNN_dct ?_ | refine q_isN_exc ?_ | refine q_isNN_exc ?_
  | refine q_chLt ?_ | refine q_chLe ?_ | refine q_chGt ?_ | refine q_chGe ?_ | refine q_max ?_ | refine q_min ?_ | refine q_lenL ?_
  | refine q_truB ?_ | refine q_asB ?_ | refine q_asI ?_ | refine q_asS ?_ | refine q_asL ?_ | refine q_asT ?_ | refine q_pair ?_ | refine q_one ?_
  | refine br_t ?_ | refine br_f ?_ | refine br_nt ?_ | refine br_nf ?_
  | refine q_size (Nat.le_of_ble_eq_true (by with_unfolding_all rfl)) ?_ | refine q_nk (by with_unfolding_all rfl) (by with_unfolding_all rfl) ?_)
local macro_rules | `(tactic| fail) => `(tactic| with_reducible first
  | refine q_addS (by fail "s") ?_ | refine Mir.q_len (by fail "s") ?_ | refine Mir.q_cut (by fail "s") ?_ | refine q_mod (by fail "s") ?_ | refine q_in62 (by fail "s") (by fail "s") ?_)
local macro_rules | `(tactic| fail) => `(tactic| with_reducible first
  | refine br_dT (by omega) ?_ | refine br_dF (by omega) ?_ | refine br_ndT (by omega) ?_ | refine br_ndF (by omega) ?_)
local macro_rules | `(tactic| fail "b") => `(tactic| with_reducible first | refine br_d (fun _ => ?_) (fun _ => ?_) | refine br_nd (fun _ => ?_) (fun _ => ?_) | refine br_b (fun _ => ?_) (fun _ => ?_))
local macro_rules | `(tactic| fail) => `(tactic| with_reducible first
  | refine ge_append ?_ | refine ge_splitL ?_ | refine ge_wkL ?_ | refine ge_itemsW ?_ | refine q_wkL ?_ | refine q_all ?_ | refine q_any ?_ | refine q_inC ?_)
local macro_rules | `(tactic| fail) => `(tactic| ((with_reducible show Gf m__law_take _ _ _ _); refine take_isA (by assumption) (by omega) (by omega) (by omega) (fun _ _ _ _ _ => ?_)))
local macro_rules | `(tactic| fail) => `(tactic| with_reducible first | refine q_isi true (by with_unfolding_all rfl) (by decide +kernel) ?_ | refine q_isi false (by with_unfolding_all rfl) (by decide +kernel) ?_)
local macro_rules | `(tactic| fail) => `(tactic| with_reducible first | refine ge_btw ?_ | refine q_btwI ?_)
local macro_rules | `(tactic| fail) => `(tactic| ((with_reducible show Gf m_parse_integer _ _ _ _); refine pint_is (by omega) ?_))
theorem Asc.rep {a : Str} (h : Asc a) (n : Nat) : Asc (strRep a n) := strRep_asc h n
theorem lwords_is {st : List Cell} {k n c : Nat} {P : D → List Cell → Prop} (h : Box st k (n + 100)) (hc : c < 128) (q : ∀ w st', w.length ≤ 80 → Asc w → Box st' k n → P (.str w) st') : Gf m__law_words [.ref k, sg c] st P noE := by
  have ac : Asc (⟨#[c]⟩ : Str) := Asc.one hc
  have lc : (⟨#[c]⟩ : Str).length = 1 := rfl
  refine gf_def rfl ?_
  repeat fail
  refine q_intB ?_
  refine q_mulB ac (by omega) fun r ra rl => ?_
  repeat fail
  refine gs_for (I := fun items sl st' => ∃ (w : Str) (a b c' : Option SV), sl = [some (.val (.ref k)), some (.val (sg c)), some (.val (.str ("abcxyz" ++ " !\"#$&'()*+,-./0123456789:;<=>?@ABCDEFGHIJKLMNOPQRSTUVWXYZ[\\]^_`{|}~"))), some (.val (.str w)), a, b, c', none] ∧ Asc w ∧ w.length + 12 * items.length ≤ 70 ∧ Box st' k (n + 10 + 12 * items.length) ∧ ∀ d ∈ items, ∃ i : Int, d = .int i) ?_ ?_ ?_
  · repeat fail
    rename_i d st2 d0 d1 b2
    refine ⟨r, _, _, _, rfl, ra, ?_, b2.mono ?_, fun d hd => ?_⟩
    · rw [rngL_len]
      omega
    · rw [rngL_len]
      omega
    · obtain ⟨i, hi, rfl⟩ := List.mem_iff_getElem.mp hd
      exact ⟨_, rngL_get (List.getElem?_eq_getElem hi)⟩
  · rintro d ds sl st' ⟨w, a, b, c', rfl, wa, wl, bw, hi⟩
    obtain ⟨i, rfl⟩ := hi d (List.mem_cons_self ..)
    rw [List.length_cons] at wl bw
    refine gs_setD ?_
    repeat fail
    refine comp_drawn (fun j st' => Box st' k (n + 11 + 12 * ds.length + j)) 6 (by decide) rfl ?_ (fun d j st2 bx => ?_) fun ys st2 hy ly bx => ?_
    · repeat fail
      rename_i z st3 z0 z1 b3
      rw [rngL_len]
      exact ⟨by omega, b3.mono (by omega)⟩
    · repeat fail
      refine q_signA 74 (by decide +kernel) (by decide) (by decide +kernel) (by assumption) (by assumption) fun x x1 _ => ?_
      exact ⟨⟨x, x1, rfl⟩, Box.mono (by assumption) (by omega)⟩
    · repeat fail
      refine q_joinA 6 (by decide) hy ly fun w2 w2l w2a => ?_
      repeat fail
      refine q_mulS (k := 2) (by decide) (by decide) (by show 1 * 2 ≤ _; decide) ?_
      repeat fail
      refine q_ixL (by assumption) (by simp; omega) fun x hx => ?_
      have key : ∃ y : Str, x = .str y ∧ y.length ≤ 2 ∧ Asc y := by
        simp only [List.mem_cons, List.not_mem_nil, or_false] at hx
        rcases hx with rfl | rfl | rfl | rfl | rfl | rfl
        · exact ⟨_, rfl, by omega, ac⟩
        · exact ⟨_, rfl, by omega, ac⟩
        · exact ⟨_, rfl, by omega, ac⟩
        · exact ⟨_, rfl, by omega, ac⟩
        · exact ⟨_, rfl, by rw [strRep_len]; show 1 * 2 ≤ 2; decide, strRep_asc ac _⟩
        · exact ⟨_, rfl, by decide +kernel, by unfold Asc; decide +kernel⟩
      obtain ⟨y, rfl, yl, ya⟩ := key
      repeat fail
      refine q_intB ?_
      refine q_mulB ya (by omega) fun r2 r2a r2l => ?_
      repeat fail
      refine ⟨_, _, _, _, rfl, (wa.app r2a).app w2a, ?_, Box.mono (by assumption) (by omega), fun d hd => hi d (List.mem_cons_of_mem _ hd)⟩
      rw [len_app, len_app]
      omega
  · rintro sl st' ⟨w, a, b, c', rfl, wa, wl, bw, _⟩
    rw [List.length_nil] at wl bw
    repeat fail
    refine q_ixL (by assumption) (by simp; omega) fun x hx => ?_
    have key : ∃ y : Str, x = .str y ∧ y.length ≤ 2 ∧ Asc y := by
      have em : ∀ y ∈ (["\n", ""] : List Str), y.length ≤ 2 ∧ Asc y := by unfold Asc; decide +kernel
      simp only [List.mem_cons, List.not_mem_nil, or_false] at hx
      rcases hx with rfl | rfl | rfl | rfl | rfl | rfl
      · exact ⟨_, rfl, by omega, ac⟩
      all_goals exact ⟨_, rfl, em _ (by simp)⟩
    obtain ⟨y, rfl, yl, ya⟩ := key
    repeat fail
    refine q _ _ ?_ (wa.app ya) (Box.mono (by assumption) (by omega))
    rw [len_app]
    omega
end Lw
namespace Lw
open PySem L2 Mir TL
local macro_rules | `(tactic| fail) => `(tactic| with_reducible first
  | refine ge_pure ?_ | refine ge_op ?_ | refine ge_un ?_ | refine ge_fn ?_ | refine ge_cons ?_ | refine ge_met ?_ | refine ge_call ?_ | refine ge_kw ?_ | refine ge_lst ?_ | refine ge_lstL ?_ | refine ge_tup ?_
  | refine ge_frz ?_ | refine ge_box ?_ | refine ge_exc ?_ | refine ge_dct1 ?_ | refine ge_slice ?_ | refine ge_part ?_ | refine ge_tru ?_ | refine ge_not ?_ | refine ge_and ?_ | refine ge_or ?_ | refine ge_ite ?_
  | refine ge_andB ?_ | refine ge_orB ?_ | refine ge_notB ?_ | refine ge_isB ?_ | refine ge_chain ?_ | refine ge_items ?_ | refine ge_itemsT ?_ | refine ge_signs ?_ | refine ge_rng1 ?_ | refine ge_rng2 ?_
  | refine gs_seq ?_ | refine gs_next ?_ | refine gs_cont ?_ | refine gs_brk ?_ | refine gs_retN ?_ | refine gs_ret ?_ | refine gs_expr ?_ | refine gs_if ?_ | refine gs_set ?_ | refine gs_par ?_ | refine gs_sub ?_)
local macro_rules | `(tactic| fail) => `(tactic| ((with_reducible show Ge (varM _) _ _ _ _); refine ge_varG ?_))
local macro_rules | `(tactic| fail "s") => `(tactic| first | omega | assumption | decide | (simp only [len_app]; omega) | decide +kernel)
local macro_rules | `(tactic| fail) => `(tactic| with_reducible first
  | refine q_addI ?_ | refine q_subI ?_ | refine q_ltI ?_ | refine q_leI ?_ | refine q_gtI ?_ | refine q_geI ?_ | refine q_eqI ?_ | refine q_neI ?_ | refine q_eqSS ?_ | refine q_neSS ?_ | refine q_eqS ?_ | refine q_neS ?_ | refine q_isN_non ?_ | refine q_isNN_non ?_ | refine q_isN_bl ?_ | refine q_isNN_bl ?_ | refine q_isN_int ?_ | refine q_isNN_int ?_ | refine q_isN_str ?_ | refine q_isNN_str ?_ | refine q_isN_lst ?_ | refine q_isNN_lst ?_ | refine q_isN_tup ?_ | refine q_isNN_tup ?_ | refine q_isN_ref ?_ | refine q_isNN_ref ?_ | refine q_isN_dct ?_ | refine q_isNN_dct ?_ | refine q_isN_exc ?_ | refine q_isNN_exc ?_
  | refine q_chLt ?_ | refine q_chLe ?_ | refine q_chGt ?_ | refine q_chGe ?_ | refine q_max ?_ | refine q_min ?_ | refine q_lenL ?_
  | refine q_truB ?_ | refine q_asB ?_ | refine q_asI ?_ | refine q_asS ?_ | refine q_asL ?_ | refine q_asT ?_ | refine q_pair ?_ | refine q_one ?_
  | refine br_t ?_ | refine br_f ?_ | refine br_nt ?_ | refine br_nf ?_
  | refine q_size (Nat.le_of_ble_eq_true (by with_unfolding_all rfl)) ?_ | refine q_nk (by with_unfolding_all rfl) (by with_unfolding_all rfl) ?_)
local macro_rules | `(tactic| fail) => `(tactic| with_reducible first
  | refine q_addS (by fail "s") ?_ | refine Mir.q_len (by fail "s") ?_ | refine Mir.q_cut (by fail "s") ?_ | refine q_mod (by fail "s") ?_ | refine q_in62 (by fail "s") (by fail "s") ?_)
local macro_rules | `(tactic| fail) => `(tactic| with_reducible first
  | refine br_dT (by omega) ?_ | refine br_dF (by omega) ?_ | refine br_ndT (by omega) ?_ | refine br_ndF (by omega) ?_)
local macro_rules | `(tactic| fail "b") => `(tactic| with_reducible first | refine br_d (fun _ => ?_) (fun _ => ?_) | refine br_nd (fun _ => ?_) (fun _ => ?_) | refine br_b (fun _ => ?_) (fun _ => ?_))
local macro_rules | `(tactic| fail) => `(tactic| with_reducible first
  | refine ge_append ?_ | refine ge_splitL ?_ | refine ge_wkL ?_ | refine ge_itemsW ?_ | refine q_wkL ?_ | refine q_all ?_ | refine q_any ?_ | refine q_inC ?_)
local macro_rules | `(tactic| fail) => `(tactic| ((with_reducible show Gf m__law_take _ _ _ _); refine take_isA (by assumption) (by omega) (by omega) (by omega) (fun _ _ _ _ _ => ?_)))
local macro_rules | `(tactic| fail) => `(tactic| with_reducible first | refine q_isi true (by with_unfolding_all rfl) (by decide +kernel) ?_ | refine q_isi false (by with_unfolding_all rfl) (by decide +kernel) ?_)
local macro_rules | `(tactic| fail) => `(tactic| with_reducible first | refine ge_btw ?_ | refine q_btwI ?_)
local macro_rules | `(tactic| fail) => `(tactic| ((with_reducible show Gf m_parse_integer _ _ _ _); refine pint_is (by omega) ?_))
theorem Box.grow {st : List Cell} {k n : Nat} (h : Box st k n) (r : List Cell) : Box (st ++ r) k n := by
  obtain ⟨g, m, c, e, z⟩ := h
  exact ⟨g, m, c, by rw [List.getElem?_append_left (List.getElem?_eq_some_iff.mp e).1]; exact e, z⟩
theorem Box.lt {st : List Cell} {k n : Nat} (h : Box st k n) : k < st.length := by
  obtain ⟨g, m, c, e, z⟩ := h
  exact (List.getElem?_eq_some_iff.mp e).1
theorem Box.set {st : List Cell} {k n j : Nat} {x : Cell} (h : Box st k n) (hj : k ≠ j) : Box (st.set j x) k n := by
  obtain ⟨g, m, c, e, z⟩ := h
  exact ⟨g, m, c, by rw [List.getElem?_set_ne (fun z => hj z.symm)]; exact e, z⟩
theorem at_end (st : List Cell) (x : Cell) : (st ++ [x])[st.length]? = some x := by
  rw [List.getElem?_append_right (Nat.le_refl _), Nat.sub_self]
  rfl
theorem at_end2 (st : List Cell) (x y : Cell) : (st ++ [x] ++ [y])[st.length]? = some x := by
  rw [List.getElem?_append_left (by rw [List.length_append]; simp), at_end]
theorem sh_words {w : Str} {c : Nat} (hl : w.length ≤ 200) (ha : Asc w) (hc : c < 128) : Sh (.lst ((wordsL w c).map D.str)) :=
  sh_strs (fun x hx => strOk_asc (words_asc ha hc x hx)) 201 201 (fun x hx => by have := (words_len (w := w) (c := c)).2 x hx; omega) (by have := (words_len (w := w) (c := c)).1; omega) (by decide)
theorem sh_non : Sh .non := ⟨by simp [okP], by simp [dep], by simp [wtD]⟩
theorem words_m {c : Nat} (h : c ≠ 109) : wordsL "m" c = [("m" : Str)] := by
  show (parts c [] ([109] ++ [c])).map toS = _
  have h' : ¬ 109 = c := fun z => h z.symm
  simp [parts, h']
  rfl
theorem words_right {st : List Cell} {k n : Nat} {P : D → List Cell → Prop} (h : Box st k (n + 200)) (q : ∀ st', Box st' k n → P (.bl true) st') : Gf m__law_words_right [.ref k] st P noE := by
  refine gf_def rfl ?_
  repeat fail
  refine q_signA 70 (by decide +kernel) (by decide) (by decide +kernel) (by assumption) (by assumption) fun c hc cm => ?_
  have c109 : c ≠ 109 := fun z => absurd cm (by rw [z]; decide +kernel)
  clear cm
  repeat fail
  rename_i d1 st1 d10 d11 b1
  refine lwords_is (n := n + 99) (b1.mono (by omega)) hc fun w st2 wl wa b2 => ?_
  repeat fail
  refine gs_forT (rngL 0 2) id (I := fun pre rest sl st' => (∃ a b : Option SV, sl = [some (.val (.ref k)), some (.val (.str " !\"#$&'()*+,-./0123456789:;<=>?@ABCDEFGHIJKLMNOPQRSTUVWXYZ[\\]^_`{|}~")), some (.val (sg c)), some (.val (.str w)), a, b, none, none]) ∧ Box st' k n) ?_ ?_ ?_
  · repeat fail
    exact ⟨rfl, ⟨_, _, rfl⟩, b2.mono (by omega)⟩
  · rintro pre x rest sl st' e1 ⟨⟨a, b, rfl⟩, bx⟩
    refine gs_setD ?_
    repeat fail
    refine split_is (w := w) (c := c) (by omega) wa hc (fun g => ?_) (fun g r => ?_)
    · repeat fail
      refine q_reprR (at_end _ _) (sh_words (by omega) wa hc) ?_
      repeat fail
      refine parted_is (w := w) (c := c) (by omega) wa hc (fun g2 => ?_) (fun g2 r => absurd g g2)
      repeat fail
      refine q_reprR (at_end _ _) (sh_words (by omega) wa hc) ?_
      repeat fail
      refine q_app (at_end2 _ _ _) ?_
      repeat fail
      refine q_app2 (at_end2 _ _ _) (by rw [List.length_map]; have := (words_len (w := w) (c := c)).1; omega) ?_
      repeat fail
      exact ⟨⟨_, _, rfl⟩, ((bx.grow _).grow _).set (by have := bx.lt; omega)⟩
    · repeat fail
      refine q_repr sh_non ?_
      repeat fail
      refine parted_is (w := w) (c := c) (by omega) wa hc (fun g2 => absurd g2 g) (fun g2 r2 => ?_)
      repeat fail
      refine q_repr sh_non ?_
      repeat fail
      exact ⟨⟨_, _, rfl⟩, (bx.grow _).grow _⟩
  · rintro sl st' ⟨⟨a, b, rfl⟩, bx⟩
    have rest : ∀ st3, Box st3 k n → Gs (seqS (ifS (isB (opM fNe (kwM m_split_words 0 2 kw_split_words_0_separator_text (pureM []) (consM (varM 2) (consM (pureM (.str "m")) (pureM [])))) (lstM (consM (pureM (.str "m")) (pureM []))))) (retS (pureM (.bl false))) (nextS)) (seqS (ifS (isB (opM fNe (kwM m_split_words 1 1 kw_split_words_1_separator (consM (pureM (.str "a b+ c +d")) (pureM [])) (consM (pureM (.str "+")) (pureM []))) (lstM (consM (pureM (.str "a b")) (consM (pureM (.str " c ")) (consM (pureM (.str "d")) (pureM []))))))) (retS (pureM (.bl false))) (nextS)) (seqS (setS (lstM (consM (pureM .non) (consM (pureM (.bl true)) (consM (pureM (.int 3)) (consM (lstM (consM (pureM (.str "a")) (pureM []))) (consM (tupM (consM (pureM (.str "a")) (consM (pureM (.str "b")) (pureM [])))) (consM (dct1M (pureM (.str "a")) (pureM (.int 1))) (consM (pureM (.str "")) (consM (pureM (.str " ")) (consM (pureM (.str "\n")) (consM (excM "InvalidText" "value" (pureM (.str "a b"))) (pureM [])))))))))))) (setD 6)) (retS (opM fEq (frzM (compM [7] (itemsM (varM 6)) (setD 7) (isB (opM fIsN (kwM m_split_words 1 0 (fun xs zs => pick [0, 1] xs (zs ++ ([.str " "] : List D))) (consM (varM 7) (pureM [])) (pureM [])) (pureM .non))) (varM 7))) (lstM (pureM []))))))) [some (.val (.ref k)), some (.val (.str " !\"#$&'()*+,-./0123456789:;<=>?@ABCDEFGHIJKLMNOPQRSTUVWXYZ[\\]^_`{|}~")), some (.val (sg c)), some (.val (.str w)), a, b, none, none] st3 { nx := fun x st' => P D.non st', rt := P } := fun st3 b3 => by
      repeat fail
      have am : Asc ("m" : Str) := by unfold Asc; decide +kernel
      refine split_is (w := "m") (c := c) (by decide +kernel) am hc (fun g => ?_) (fun g r => ?_)
      · repeat fail
        rw [words_m c109]
        refine q_neRef (at_end _ _) (pl_strs (ws := ["m"]) (fun x hx => by rw [List.mem_singleton.mp hx]; decide +kernel)) ?_
        repeat fail
        have ap : Asc ("a b+ c +d" : Str) := by unfold Asc; decide +kernel
        refine split_is (w := "a b+ c +d") (c := 43) (by decide +kernel) ap (by decide) (fun g => ?_) (fun g r => ?_)
        · have ew : wordsL "a b+ c +d" 43 = ([("a b" : Str), " c ", "d"] : List Str) := by decide +kernel
          rw [ew]
          repeat fail
          refine q_neRef (at_end _ _) (pl_strs (ws := ["a b", " c ", "d"]) (fun x hx => by
            simp only [List.mem_cons, List.not_mem_nil, or_false] at hx
            rcases hx with rfl | rfl | rfl <;> decide +kernel)) ?_
          repeat fail
          refine ⟨_, rfl, ?_⟩
          repeat fail
          generalize hst4 : st3 ++ [Cell.lst (List.map D.str ["m"])] ++ [Cell.lst (List.map D.str ["a b", " c ", "d"])] = st4
          have b4 : Box st4 k n := by rw [← hst4]; exact (b3.grow _).grow _
          refine ge_comp (I := fun items acc st' => acc = [] ∧ Box st' k n ∧ ∀ d ∈ items, (∃ z : Str, d = .str z ∧ Asc z ∧ z.length ≤ 100 ∧ ¬ good z 32) ∨ ∀ s, ∃ t, tagOf s d = some t ∧ kt t (.b "str") = some false) rfl rfl ?_ ?_ ?_
          · repeat fail
            refine ⟨rfl, b4, fun d hd => ?_⟩
            simp only [List.mem_cons, List.not_mem_nil, or_false] at hd
            have em : ∀ y ∈ (["", " ", "\n"] : List Str), Asc y ∧ y.length ≤ 100 ∧ ¬ good y 32 := by unfold Asc good; decide +kernel
            rcases hd with rfl | rfl | rfl | rfl | rfl | rfl | rfl | rfl | rfl | rfl
            · exact .inr fun s => ⟨_, rfl, by decide +kernel⟩
            · exact .inr fun s => ⟨_, rfl, by decide +kernel⟩
            · exact .inr fun s => ⟨_, rfl, by decide +kernel⟩
            · exact .inr fun s => ⟨_, rfl, by decide +kernel⟩
            · exact .inr fun s => ⟨_, rfl, by decide +kernel⟩
            · exact .inr fun s => ⟨_, rfl, by decide +kernel⟩
            · exact .inl ⟨_, rfl, em _ (by simp)⟩
            · exact .inl ⟨_, rfl, em _ (by simp)⟩
            · exact .inl ⟨_, rfl, em _ (by simp)⟩
            · exact .inr fun s => ⟨_, rfl, by decide +kernel⟩
          · rintro d ds acc st' ⟨rfl, bx2, hi⟩
            repeat fail
            rcases hi d (List.mem_cons_self ..) with ⟨z, rfl, za, zl, zg⟩ | hd
            · refine split_is (w := z) (c := 32) (by omega) za (by decide) (fun g => absurd g zg) (fun g r => ?_)
              repeat fail
              exact ⟨rfl, bx2.grow _, fun d hd => hi d (List.mem_cons_of_mem _ hd)⟩
            · obtain ⟨t, e1, e2⟩ := hd st'
              refine split_not e1 e2 ?_
              repeat fail
              exact ⟨rfl, bx2, fun d hd => hi d (List.mem_cons_of_mem _ hd)⟩
          · rintro acc st' ⟨rfl, bx2, _⟩
            repeat fail
            refine q_eqSame ⟨by simp [okP, okPL], by simp [dep, depL]⟩ ?_
            exact q _ bx2
        · exact absurd (by unfold good; decide +kernel) g
      · exact absurd ⟨by decide +kernel, by rw [words_m c109]; decide +kernel⟩ g
    repeat fail
    refine split_is (w := w) (c := 32) (by omega) wa (by decide) (fun g => ?_) (fun g r => ?_)
    · repeat fail
      refine q_reprR (at_end _ _) (sh_words (by omega) wa (by decide)) ?_
      repeat fail
      refine parted_is (w := w) (c := 32) (by omega) wa (by decide) (fun g2 => ?_) (fun g2 r => absurd g g2)
      repeat fail
      refine q_reprR (at_end _ _) (sh_words (by omega) wa (by decide)) ?_
      iterate 4 fail
      exact rest _ ((bx.grow _).grow _)
    · repeat fail
      refine q_repr sh_non ?_
      repeat fail
      refine parted_is (w := w) (c := 32) (by omega) wa (by decide) (fun g2 => absurd g2 g) (fun g2 r2 => ?_)
      repeat fail
      refine q_repr sh_non ?_
      iterate 4 fail
      exact rest _ ((bx.grow _).grow _)
end Lw
namespace Lw
open PySem L2 Mir TL
local macro_rules | `(tactic| fail) => `(tactic| with_reducible first
  | refine ge_pure ?_ | refine ge_op ?_ | refine ge_un ?_ | refine ge_fn ?_ | refine ge_cons ?_ | refine ge_met ?_ | refine ge_call ?_ | refine ge_kw ?_ | refine ge_lst ?_ | refine ge_lstL ?_ | refine ge_tup ?_
  | refine ge_frz ?_ | refine ge_box ?_ | refine ge_exc ?_ | refine ge_dct1 ?_ | refine ge_slice ?_ | refine ge_part ?_ | refine ge_tru ?_ | refine ge_not ?_ | refine ge_and ?_ | refine ge_or ?_ | refine ge_ite ?_
  | refine ge_andB ?_ | refine ge_orB ?_ | refine ge_notB ?_ | refine ge_isB ?_ | refine ge_chain ?_ | refine ge_items ?_ | refine ge_itemsT ?_ | refine ge_signs ?_ | refine ge_rng1 ?_ | refine ge_rng2 ?_
  | refine gs_seq ?_ | refine gs_next ?_ | refine gs_cont ?_ | refine gs_brk ?_ | refine gs_retN ?_ | refine gs_ret ?_ | refine gs_expr ?_ | refine gs_if ?_ | refine gs_set ?_ | refine gs_par ?_ | refine gs_sub ?_)
local macro_rules | `(tactic| fail) => `(tactic| ((with_reducible show Ge (varM _) _ _ _ _); refine ge_varG ?_))
local macro_rules | `(tactic| fail "s") => `(tactic| first | omega | assumption | decide | (simp only [len_app]; omega) | decide +kernel)
local macro_rules | `(tactic| fail) => `(tactic| with_reducible first
  | refine q_addI ?_ | refine q_subI ?_ | refine q_ltI ?_ | refine q_leI ?_ | refine q_gtI ?_ | refine q_geI ?_ | refine q_eqI ?_ | refine q_neI ?_ | refine q_eqSS ?_ | refine q_neSS ?_ | refine q_eqS ?_ | refine q_neS ?_ | refine q_isN_non ?_ | refine q_isNN_non ?_ | refine q_isN_bl ?_ | refine q_isNN_bl ?_ | refine q_isN_int ?_ | refine q_isNN_int ?_ | refine q_isN_str ?_ | refine q_isNN_str ?_ | refine q_isN_lst ?_ | refine q_isNN_lst ?_ | refine q_isN_tup ?_ | refine q_isNN_tup ?_ | refine q_isN_ref ?_ | refine q_isNN_ref ?_ | refine q_isN_dct ?_ | refine q_isNN_dct ?_ | refine q_isN_exc ?_ | refine q_isNN_exc ?_
  | refine q_chLt ?_ | refine q_chLe ?_ | refine q_chGt ?_ | refine q_chGe ?_ | refine q_max ?_ | refine q_min ?_ | refine q_lenL ?_
  | refine q_truB ?_ | refine q_asB ?_ | refine q_asI ?_ | refine q_asS ?_ | refine q_asL ?_ | refine q_asT ?_ | refine q_pair ?_ | refine q_one ?_
  | refine br_t ?_ | refine br_f ?_ | refine br_nt ?_ | refine br_nf ?_
  | refine q_size (Nat.le_of_ble_eq_true (by with_unfolding_all rfl)) ?_ | refine q_nk (by with_unfolding_all rfl) (by with_unfolding_all rfl) ?_)
local macro_rules | `(tactic| fail) => `(tactic| with_reducible first
  | refine q_addS (by fail "s") ?_ | refine Mir.q_len (by fail "s") ?_ | refine Mir.q_cut (by fail "s") ?_ | refine q_mod (by fail "s") ?_ | refine q_in62 (by fail "s") (by fail "s") ?_)
local macro_rules | `(tactic| fail) => `(tactic| with_reducible first
  | refine br_dT (by omega) ?_ | refine br_dF (by omega) ?_ | refine br_ndT (by omega) ?_ | refine br_ndF (by omega) ?_)
local macro_rules | `(tactic| fail "b") => `(tactic| with_reducible first | refine br_d (fun _ => ?_) (fun _ => ?_) | refine br_nd (fun _ => ?_) (fun _ => ?_) | refine br_b (fun _ => ?_) (fun _ => ?_))
local macro_rules | `(tactic| fail) => `(tactic| with_reducible first
  | refine ge_append ?_ | refine ge_splitL ?_ | refine ge_wkL ?_ | refine ge_itemsW ?_ | refine q_wkL ?_ | refine q_all ?_ | refine q_any ?_ | refine q_inC ?_)
local macro_rules | `(tactic| fail) => `(tactic| ((with_reducible show Gf m__law_take _ _ _ _); refine take_isA (by assumption) (by omega) (by omega) (by omega) (fun _ _ _ _ _ => ?_)))
local macro_rules | `(tactic| fail) => `(tactic| with_reducible first | refine q_isi true (by with_unfolding_all rfl) (by decide +kernel) ?_ | refine q_isi false (by with_unfolding_all rfl) (by decide +kernel) ?_)
local macro_rules | `(tactic| fail) => `(tactic| with_reducible first | refine ge_btw ?_ | refine q_btwI ?_)
local macro_rules | `(tactic| fail) => `(tactic| ((with_reducible show Gf m_parse_integer _ _ _ _); refine pint_is (by omega) ?_))
/-! ### a long text -/
theorem parts_sep {c : Nat} : ∀ (a acc r : List Nat), c ∉ a → parts c acc (a ++ c :: r) = (acc ++ a) :: parts c [] r
  | [], acc, r, _ => by simp [parts]
  | d :: a, acc, r, h => by
    rw [List.mem_cons, not_or] at h
    have hd : ¬ d = c := fun z => h.1 z.symm
    show (if d = c then _ else parts c (acc ++ [d]) (a ++ c :: r)) = _
    rw [if_neg hd, parts_sep a _ r h.2, List.append_assoc]
    rfl
def ab : List Nat := [97, 98]
theorem ab_parts (z : List Nat) : ∀ m, parts 32 [] ((List.replicate m (ab ++ [32])).flatten ++ z) = List.replicate m ab ++ parts 32 [] z
  | 0 => by simp
  | m + 1 => by
    rw [List.replicate_succ, List.flatten_cons, List.append_assoc, List.append_assoc, List.singleton_append, parts_sep ab [] _ (by decide), ab_parts z m, List.replicate_succ]
    rfl
theorem tl_app (a b : Str) : (a ++ b).cps.toList = a.cps.toList ++ b.cps.toList := by
  show (a.cps ++ b.cps).toList = _
  simp
theorem rep_tl (m : Nat) : (strRep "ab " m).cps.toList = (List.replicate m (ab ++ [32])).flatten := by
  rw [strRep_tl]
  rfl
theorem long_words (m : Nat) : wordsL (strRep "ab " m ++ "a") 32 = List.replicate m ("ab" : Str) ++ [("a" : Str)] := by
  unfold wordsL
  rw [tl_app, rep_tl, List.append_assoc, ab_parts, List.map_append, List.map_replicate]
  rfl
theorem long_words2 (m : Nat) : wordsL (strRep "ab " m) 32 = List.replicate m ("ab" : Str) ++ [("" : Str)] := by
  unfold wordsL
  rw [rep_tl, ab_parts, List.map_append, List.map_replicate]
  rfl
theorem long_ten (m : Nat) : 10 ∉ (strRep "ab " m).cps.toList := fun h => by
  rw [rep_tl] at h
  obtain ⟨l, hl, hc⟩ := List.mem_flatten.mp h
  rw [List.eq_of_mem_replicate hl] at hc
  exact absurd hc (by decide)
theorem rep_flat (m : Nat) (d : D) : (List.replicate m [d]).flatten = List.replicate m d := by
  induction m with
  | zero => rfl
  | succ m ih => rw [List.replicate_succ, List.flatten_cons, ih, List.replicate_succ]; rfl
theorem sh_int {i : Int} (h : i.natAbs < 10 ^ 40) : Sh (.int i) := ⟨by simpa only [okP] using h, by simp [dep], by simp [wtD]⟩
theorem long_right {st : List Cell} {k n : Nat} {P : D → List Cell → Prop} (h : Box st k (n + 5)) (q : ∀ st', Box st' k n → P (.bl true) st') : Gf m__law_long_right [.ref k] st P noE := by
  refine gf_def rfl ?_
  repeat fail
  rename_i d1 st1 d10 d11 b1 d2 st2 d20 d21 b2
  refine q_ixL d20 (by simp; omega) fun x hx => ?_
  have key : ∃ m : Nat, x = .int m ∧ m ≤ 1333 := by
    simp only [List.mem_cons, List.not_mem_nil, or_false] at hx
    rcases hx with rfl | rfl
    · exact ⟨1333, rfl, by decide⟩
    · exact ⟨(300 + d1).toNat, by rw [show (((300 + d1).toNat : Nat) : Int) = 300 + d1 by omega], by omega⟩
  obtain ⟨m, rfl, hm⟩ := key
  repeat fail
  refine pow30 ?_
  repeat fail
  refine q_mulS (k := 30) (by decide) (by decide) (by decide +kernel) ?_
  have l9 : (strRep "9" (30 : Int).toNat).length ≤ 100000 := by decide +kernel
  have n9 : numT (strRep "9" (30 : Int).toNat) = some 999999999999999999999999999999 := by decide +kernel
  generalize strRep "9" (30 : Int).toNat = s9 at l9 n9
  repeat fail
  rw [n9]
  have w9 : withinD (some 999999999999999999999999999999) 0 (1000000000000000000000000000000 - 1) = .int (1000000000000000000000000000000 - 1) := by
    unfold withinD
    dsimp only
    rw [if_pos (by decide +kernel)]
    rfl
  rw [w9]
  refine q_repr (sh_int (by decide +kernel)) ?_
  repeat fail
  refine q_repr (sh_int (by decide +kernel)) ?_
  repeat fail
  have hmm : ((m : Nat) : Int).toNat = m := by omega
  have l3 : (strRep "ab " m).length = 3 * m := by rw [strRep_len]; rfl
  have ar : Asc (strRep "ab " m) := strRep_asc (by unfold Asc; decide +kernel) m
  have as : Asc (strRep "ab " m ++ "a") := ar.app (by unfold Asc; decide +kernel)
  have la : ("a" : Str).length = 1 := rfl
  refine q_mulS (k := (m : Nat)) (by omega) (by omega) (by rw [hmm]; show 3 * m ≤ _; omega) ?_
  rw [hmm]
  repeat fail
  have nab : ("ab" : Str) ≠ "" ∧ ("a" : Str) ≠ "" := by decide +kernel
  refine split_is (w := strRep "ab " m ++ "a") (c := 32) (by rw [len_app]; omega) as (by decide) (fun g => ?_) (fun g r => absurd ⟨?_, ?_⟩ g)
  · repeat fail
    rw [long_words]
    refine q_rep (by omega) (by omega) (by decide) ?_
    rw [hmm, rep_flat]
    repeat fail
    refine q_addLL (by rw [List.length_replicate]; simp; omega) ?_
    have e : List.replicate m (D.str "ab") ++ [D.str "a"] = (List.replicate m ("ab" : Str) ++ [("a" : Str)]).map D.str := by simp
    rw [e]
    refine q_eqRef (at_end _ _) (pl_strs fun x hx => ?_) ?_
    · rcases List.mem_append.mp hx with z | z
      · rw [List.eq_of_mem_replicate z]
        decide +kernel
      · rw [List.mem_singleton.mp z]
        decide +kernel
    repeat fail
    refine q_mulS (k := (m : Nat)) (by omega) (by omega) (by rw [hmm]; show 3 * m ≤ _; omega) ?_
    rw [hmm]
    repeat fail
    refine split_is (w := strRep "ab " m) (c := 32) (by omega) ar (by decide) (fun g => absurd g.2 ?_) (fun g r => ?_)
    · rw [long_words2]
      simp
    · repeat fail
      exact q _ (Box.mono ((b2.grow _).grow _) (by omega))
  · rw [tl_app, List.mem_append]
    rintro (z | z)
    · exact long_ten m z
    · exact absurd z (by decide +kernel)
  · rw [long_words, List.mem_append]
    rintro (z | z)
    · exact nab.1 (List.eq_of_mem_replicate z).symm
    · exact nab.2 (List.mem_singleton.mp z).symm
/-! ### the law -/
theorem cell_is {st : List Cell} {ns : List Int} {i : Nat} (hi : i ≤ 1000) {P : D → List Cell → Prop} (q : ∀ z : Int, P (.int z) st) : Gf m__law_cell [.lst (ns.map D.int), .int i] st P noE := by
  refine gf_def rfl ?_
  repeat fail
  fail "b"
  · rename_i h
    rw [List.length_map] at h
    have hl : i < ns.length := by omega
    repeat fail
    refine ⟨.int ns[i], ?_, q _⟩
    show atI (ns.map D.int) (i : Int) = _
    exact atI_at (by rw [List.getElem?_map, List.getElem?_eq_getElem hl]; rfl)
  · repeat fail
    refine q_mul (by have := log_small (i := (i : Int)) (by omega) (by omega); have : (15502133 : Int).natAbs.log2 < 64 := by decide +kernel
                     omega) ?_
    repeat fail
    exact q _
theorem box_is {st : List Cell} {z : Int} {P : D → List Cell → Prop} (q : ∀ st', Box st' st.length 1000000 → P (.ref st.length) st') : Gf m__law_box [.int z] st P noE := by
  refine gf_def rfl ?_
  repeat fail
  refine q_pow ⟨by decide, by decide, by decide +kernel⟩ ?_
  repeat fail
  refine q _ ⟨_, _, _, by rw [List.getElem?_append_right (Nat.le_refl _), Nat.sub_self]; rfl, ?_, Int.emod_nonneg _ (by decide), Int.emod_lt_of_pos _ (by decide), by decide, by decide⟩
  split <;> omega
theorem law_true (ns : List Int) (hn : ns.length ≤ 63) : ∃ st, m_law [.lst (ns.map D.int)] [] = .ok (.bl true) st := by
  have key : Gf m_law [.lst (ns.map D.int)] [] (fun d _ => d = .bl true) noE := by
    refine gf_def rfl ?_
    repeat fail
    refine gs_for (I := fun items sl st' => (∃ a b c : Option SV, sl = [some (.val (.lst (ns.map D.int))), a, b, c]) ∧ ∀ d ∈ items, ∃ i : Nat, i ≤ 1000 ∧ d = .int i) ?_ ?_ ?_
    · repeat fail
      have lm : (ns.map D.int).length = ns.length := List.length_map _
      · refine ⟨⟨_, _, _, rfl⟩, fun d hd => ?_⟩
        obtain ⟨i, hi, rfl⟩ := List.mem_iff_getElem.mp hd
        have e := rngL_get (List.getElem?_eq_getElem hi)
        rw [rngL_len] at hi
        refine ⟨i, ?_, by rw [e, Int.zero_add]⟩
        revert hi
        split <;> (try split) <;> intro hi <;> omega
    · rintro d ds sl st ⟨⟨a, b, c, rfl⟩, hi⟩
      obtain ⟨i, i0, rfl⟩ := hi d (List.mem_cons_self ..)
      refine gs_setD ?_
      repeat fail
      refine cell_is i0 fun z => ?_
      repeat fail
      refine box_is fun st1 hb => ?_
      repeat fail
      refine long_right (n := 100000) (hb.mono (by decide)) fun st2 b2 => ?_
      repeat fail
      refine gs_for (I := fun items sl st' => (∃ a : Option SV, sl = [some (.val (.lst (ns.map D.int))), some (.val (.int i)), some (.val (.ref st.length)), a]) ∧ Box st' st.length (400 * items.length)) ?_ ?_ ?_
      · repeat fail
        refine ⟨⟨_, rfl⟩, b2.mono ?_⟩
        rw [rngL_len]
        decide
      · rintro d2 ds2 sl st3 ⟨⟨a, rfl⟩, hb2⟩
        have hb3 : Box st3 st.length (400 * ds2.length + 200 + 200) := hb2.mono (by rw [List.length_cons]; omega)
        refine gs_setD ?_
        repeat fail
        refine numbers_right hb3 fun st4 b4 => ?_
        repeat fail
        refine words_right b4 fun st5 b5 => ?_
        repeat fail
        exact ⟨⟨_, rfl⟩, b5⟩
      · rintro sl st3 ⟨⟨a, rfl⟩, hb2⟩
        exact ⟨⟨_, _, _, rfl⟩, fun d hd => hi d (List.mem_cons_of_mem _ hd)⟩
    · rintro sl st ⟨⟨a, b, c, rfl⟩, _⟩
      repeat fail
      rfl
  have k := key.is
  unfold GfD at k
  cases e : m_law [.lst (ns.map D.int)] [] with
  | ok d st =>
    rw [e] at k
    dsimp only at k
    subst k
    exact ⟨st, rfl⟩
  | exc x st =>
    rw [e] at k
    exact k.elim
  | bad =>
    rw [e] at k
    exact k.elim
end Lw
open PySem PySem.W PyProof.Rows
set_option maxRecDepth 100000 in
set_option maxHeartbeats 8000000 in
theorem PySem.Challenge.cw_leastreplan_k03_numbers_and_words_in_tex_holds : PySem.Challenge.rw_leastreplan_k03_numbers_and_words_in_tex.Holds := by
  w_on; o_law; k_head
  case hw => w_witness2
  k_fill
  refine Mir.walk_m (l := PySem.Challenge.rw_leastreplan_k03_numbers_and_words_in_tex) (k := 4) (x := "_law_script") (m := Lw.m_law) rfl (by decide) rfl ⟨rfl, by decide, by decide⟩ (fun w h Y => PySem.W.kIn_of Y) ?F Lw.law_true
  case F =>
    intro w mg fa h KX G hmg
    refine' Lw.all_mk KX G hmg ?a0 ?l0 ?c0 ?k0 ?a1 ?l1 ?c1 ?k1 ?a2 ?l2 ?c2 ?k2 ?a3 ?l3 ?c3 ?k3 ?kd_parse_integer_low ?kd_parse_integer_high ?a4 ?l4 ?c4 ?k4 ?kd_split_words_separator ?a5 ?l5 ?c5 ?k5 ?a6 ?l6 ?c6 ?k6 ?a7 ?l7 ?c7 ?k7 ?a8 ?l8 ?c8 ?k8 ?a9 ?l9 ?c9 ?k9 ?a10 ?l10 ?c10 ?k10 ?a11 ?l11 ?c11 ?k11 ?a12 ?l12 ?c12 ?k12 ?a13 ?l13 ?c13 ?k13 ?c_DIGITS ?c_MOST_DIGITS ?n_all ?n_int ?n_isinstance ?n_len ?n_max ?n_min ?n_range ?n_repr ?n_str ?ga_PlanError ?gs_PlanError ?gr_PlanError ?gi_PlanError ?g_InvalidText ?xL_InvalidText ?sa_InvalidText ?e1_InvalidText ?e2_InvalidText ?e3_InvalidText ?h1_InvalidText ?h2_InvalidText ?h3_InvalidText ?h4_InvalidText ?h5_InvalidText ?h6_InvalidText ?h7_InvalidText ?no_InvalidText ?ii_InvalidText ?ti_InvalidText ?li_InvalidText ?ci_InvalidText ?ki_InvalidText
    (case a0 => k_is); (case l0 => k_is); (case c0 => k_is); (case k0 => k_is); (case a1 => k_is); (case l1 => k_is); (case c1 => k_is); (case k1 => k_is)
    (case a2 => k_is); (case l2 => k_is); (case c2 => k_is); (case k2 => k_is); (case a3 => k_is); (case l3 => k_is); (case c3 => k_is); (case k3 => k_is)
    (case kd_parse_integer_low => k_is); (case kd_parse_integer_high => k_is); (case a4 => k_is); (case l4 => k_is); (case c4 => k_is); (case k4 => k_is); (case kd_split_words_separator => k_is); (case a5 => k_is)
    (case l5 => k_is); (case c5 => k_is); (case k5 => k_is); (case a6 => k_is); (case l6 => k_is); (case c6 => k_is); (case k6 => k_is); (case a7 => k_is)
    (case l7 => k_is); (case c7 => k_is); (case k7 => k_is); (case a8 => k_is); (case l8 => k_is); (case c8 => k_is); (case k8 => k_is); (case a9 => k_is)
    (case l9 => k_is); (case c9 => k_is); (case k9 => k_is); (case a10 => k_is); (case l10 => k_is); (case c10 => k_is); (case k10 => k_is); (case a11 => k_is)
    (case l11 => k_is); (case c11 => k_is); (case k11 => k_is); (case a12 => k_is); (case l12 => k_is); (case c12 => k_is); (case k12 => k_is); (case a13 => k_is)
    (case l13 => k_is); (case c13 => k_is); (case k13 => k_is); (case c_DIGITS => k_is); (case c_MOST_DIGITS => k_is); (case n_all => k_is); (case n_int => k_is); (case n_isinstance => k_is)
    (case n_len => k_is); (case n_max => k_is); (case n_min => k_is); (case n_range => k_is); (case n_repr => k_is); (case n_str => k_is); (case ga_PlanError => k_is); (case gs_PlanError => k_is)
    (case gr_PlanError => k_is); (case gi_PlanError => k_is); (case g_InvalidText => k_is); (case xL_InvalidText => k_is); (case sa_InvalidText => k_is); (case e1_InvalidText => k_is); (case e2_InvalidText => k_is); (case e3_InvalidText => k_is)
    (case h1_InvalidText => k_is); (case h2_InvalidText => k_is); (case h3_InvalidText => k_is); (case h4_InvalidText => k_is); (case h5_InvalidText => k_is); (case h6_InvalidText => k_is); (case h7_InvalidText => k_is); (case no_InvalidText => k_is)
    (case ii_InvalidText => k_is); (case ti_InvalidText => k_is); (case li_InvalidText => k_is); (case ci_InvalidText => k_is); (case ki_InvalidText => k_is)
