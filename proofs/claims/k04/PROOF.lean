import PyProof.Rows.All
import Wide.All
import OpenK.AllK
import Wide.FinOn
import HandS.ForMost
import HandS.ForExc
import HandS.Wide
import HandS.TupAny
import HandS.TupMul
import HandS.IsInst
import HandS.Flow
import HandS.HeadHook2
import HandS.TupLe
import HandS.Codes
import PyProof.ReprRoads
import HandS.HeadEnd
import HandS.Head0
import HandS.Head1
import HandS.Head2
import HandS.HeadHook1
import KE.KStateDown
import PyProof.ReprLen
import PySem.Challenge.RW_coveredtree_k04_lines_and_wishes_looked
set_option Elab.async false
set_option linter.all false
set_option maxRecDepth 100000
set_option maxHeartbeats 1000000
/-! DIA: deep values, stores, actions; what a deep value is in an abstract heap. -/
namespace DI
open PySem PySem.Spec L2
open PyProof.Rows hiding St

/-- deep values: tuples, frozen lists, frozen dicts are plain data -/
inductive D where
  | non | bl (b : Bool) | int (i : Int) | str (x : Str) | tup (xs : List D) | lst (xs : List D) | dct (kvs : List (D × D))
  | ref (l : Nat) | fn (k : Nat) | cls (k : Nat) | ty (n : String) | exc (k : Nat) (fs : List (Str × D))
  deriving Inhabited
/-- mutable things -/
inductive O where
  | lst (xs : List D) | ins (c : Nat) (fs : List (Str × D)) | dct (kvs : List (Key × D)) | dead
  deriving Inhabited
abbrev Sto := List O
abbrev Env := List (Option D)
inductive R (α : Type) where
  | ok (a : α) (m : Sto) | exc (k : Nat) (fs : List (Str × D)) (m : Sto) | stuck
def R.bind {α β : Type} (r : R α) (f : α → Sto → R β) : R β := match r with
  | .ok a m => f a m
  | .exc k fs m => .exc k fs m
  | .stuck => .stuck
abbrev M (α : Type) := Env → Sto → R α

/-! ### relations -/
/-- the world of a text: the written part, where defs and classes stand -/
structure Gx where
  K : PySem.W.Frag
  fa : Nat → Option Addr
  ca : Nat → Option Addr

def SqF (H : Hp) (a : Addr) (xs : List V) : Prop := ∃ o, H a = some (.frz o (.lst xs))
def DqF (H : Hp) (a : Addr) (kvs : List (Key × V)) : Prop := ∃ o, H a = some (.frz o (.dK kvs))
def keyD : Key → D
  | .inl i => .int i
  | .inr x => .str x
mutual
inductive RD (G : Gx) (t : List Addr) (H : Hp) : D → V → Prop
  | non : RD G t H .non .non
  | bl (b : Bool) : RD G t H (.bl b) (.bl b)
  | int (i : Int) : RD G t H (.int i) (.int i)
  | str (x : Str) : RD G t H (.str x) (.str x)
  | ty (n : String) : RD G t H (.ty n) (.ty n)
  | tup {a : Addr} {ds : List D} {vs : List V} : SqT G.K H a vs → RDs G t H ds vs → RD G t H (.tup ds) (.ref a)
  | lst {a : Addr} {ds : List D} {vs : List V} : SqF H a vs → RDs G t H ds vs → RD G t H (.lst ds) (.ref a)
  | dct {a : Addr} {kds : List (D × D)} {kvs : List (Key × V)} : DqF H a kvs → RDk G t H kds kvs → RD G t H (.dct kds) (.ref a)
  | ref {l : Nat} {a : Addr} : t[l]? = some a → RD G t H (.ref l) (.ref a)
  | fn {k : Nat} {a : Addr} : G.fa k = some a → RD G t H (.fn k) (.ref a)
  | cls {k : Nat} {a : Addr} : G.ca k = some a → RD G t H (.cls k) (.ref a)
inductive RDs (G : Gx) (t : List Addr) (H : Hp) : List D → List V → Prop
  | nil : RDs G t H [] []
  | cons {d : D} {v : V} {ds : List D} {vs : List V} : RD G t H d v → RDs G t H ds vs → RDs G t H (d :: ds) (v :: vs)
inductive RDk (G : Gx) (t : List Addr) (H : Hp) : List (D × D) → List (Key × V) → Prop
  | nil : RDk G t H [] []
  | cons {k : Key} {d : D} {v : V} {ds : List (D × D)} {vs : List (Key × V)} : RD G t H d v → RDk G t H ds vs → RDk G t H ((keyD k, d) :: ds) ((k, v) :: vs)
end

/-- what never changes once it stands: tuples and frozen things -/
structure Ext (H H' : Hp) : Prop where
  tup : ∀ b xs, H b = some (.tup xs) → H' b = some (.tup xs)
  frz : ∀ b o u, H b = some (.frz o u) → H' b = some (.frz o u)
theorem Ext.refl (H : Hp) : Ext H H := ⟨fun _ _ h => h, fun _ _ _ h => h⟩
theorem Ext.trans {H H1 H2 : Hp} (a : Ext H H1) (b : Ext H1 H2) : Ext H H2 := ⟨fun c xs h => b.tup c xs (a.tup c xs h), fun c o u h => b.frz c o u (a.frz c o u h)⟩
theorem Ext.new {H : Hp} {p : Addr} {o : HO} (h : H p = none) : Ext H (upd H p o) :=
  ⟨fun b xs e => by rw [upd_ne (ne_of_none e h)]; exact e, fun b u xs e => by rw [upd_ne (ne_of_none e h)]; exact e⟩
/-- a written object that is neither -/
def Soft : HO → Prop
  | .tup _ => False
  | .frz _ _ => False
  | _ => True
theorem Ext.put {H : Hp} {p : Addr} {o u : HO} (h : H p = some o) (s : Soft o) : Ext H (upd H p u) := by
  have n1 : ∀ b xs, H b = some (.tup xs) → b ≠ p := fun b xs e z => by subst z; rw [e] at h; cases h; exact s
  have n2 : ∀ b x xs, H b = some (.frz x xs) → b ≠ p := fun b x xs e z => by subst z; rw [e] at h; cases h; exact s
  exact ⟨fun b xs e => by rw [upd_ne (n1 b xs e)]; exact e, fun b x xs e => by rw [upd_ne (n2 b x xs e)]; exact e⟩

theorem rd_of {H : Hp} {H' : Hp} (e : Ext H H') {K : PySem.W.Frag} {a : Addr} {xs : List V} (h : SqT K H a xs) : SqT K H' a xs := by
  rcases h with (h | ⟨o, h⟩) | h
  · exact .inl (.inl (e.tup _ _ h))
  · exact .inl (.inr ⟨o, e.frz _ _ _ h⟩)
  · exact .inr h
theorem sqF_of {H : Hp} {H' : Hp} (e : Ext H H') {a : Addr} {xs : List V} (h : SqF H a xs) : SqF H' a xs := let ⟨o, q⟩ := h; ⟨o, e.frz _ _ _ q⟩
theorem dqF_of {H : Hp} {H' : Hp} (e : Ext H H') {a : Addr} {xs : List (Key × V)} (h : DqF H a xs) : DqF H' a xs := let ⟨o, q⟩ := h; ⟨o, e.frz _ _ _ q⟩
theorem SqF.l {H : Hp} {K : PySem.W.Frag} {a : Addr} {xs : List V} (h : SqF H a xs) : SqL K H a xs := let ⟨o, q⟩ := h; .inl (.inr ⟨o, q⟩)

/-- addresses of the store grow -/
def Le (t t' : List Addr) : Prop := ∀ (l : Nat) (a : Addr), t[l]? = some a → t'[l]? = some a
theorem Le.refl (t : List Addr) : Le t t := fun _ _ h => h
theorem Le.trans {t t1 t2 : List Addr} (a : Le t t1) (b : Le t1 t2) : Le t t2 := fun l c h => b l c (a l c h)
theorem Le.app (t u : List Addr) : Le t (t ++ u) := fun l a h => by
  rw [List.getElem?_append_left (List.getElem?_eq_some_iff.mp h).1]; exact h

/-- A STEP of the world: what stands stays, but the store's own things; new ones are new -/
structure Stp (t : List Addr) (H : Hp) (t1 : List Addr) (H1 : Hp) : Prop where
  le : Le t t1
  ex : Ext H H1
  keep : ∀ b u, H b = some u → b ∉ t → H1 b = some u
  new : ∀ a, a ∈ t1 → a ∈ t ∨ H a = none
theorem Stp.refl (t : List Addr) (H : Hp) : Stp t H t H := ⟨Le.refl t, Ext.refl H, fun _ _ h _ => h, fun _ h => .inl h⟩
theorem Stp.trans {t t1 t2 : List Addr} {H H1 H2 : Hp} (a : Stp t H t1 H1) (b : Stp t1 H1 t2 H2) : Stp t H t2 H2 := by
  refine ⟨a.le.trans b.le, a.ex.trans b.ex, fun c u h n => b.keep c u (a.keep c u h n) fun z => ?_, fun c h => ?_⟩
  · rcases a.new c z with q | q
    · exact n q
    · rw [q] at h; cases h
  · rcases b.new c h with q | q
    · exact a.new c q
    · by_cases n : c ∈ t
      · exact .inl n
      · cases e : H c with
        | none => exact .inr rfl
        | some u => rw [a.keep c u e n] at q; cases q
theorem Stp.fresh {t : List Addr} {H : Hp} {p : Addr} {o : HO} (h : H p = none) : Stp t H t (upd H p o) :=
  ⟨Le.refl t, Ext.new h, fun b u e _ => by rw [upd_ne (ne_of_none e h)]; exact e, fun _ h => .inl h⟩
theorem Stp.grow {t : List Addr} {H : Hp} {p : Addr} {o : HO} (h : H p = none) : Stp t H (t ++ [p]) (upd H p o) :=
  ⟨Le.app t [p], Ext.new h, fun b u e _ => by rw [upd_ne (ne_of_none e h)]; exact e, fun a q => by
    rcases List.mem_append.mp q with z | z
    · exact .inl z
    · rw [List.mem_singleton] at z; subst z; exact .inr h⟩
theorem Stp.put {t : List Addr} {H : Hp} {p : Addr} {o u : HO} (hp : p ∈ t) (h : H p = some o) (s : Soft o) : Stp t H t (upd H p u) :=
  ⟨Le.refl t, Ext.put h s, fun b x e n => by rw [upd_ne fun z => n (by rw [z]; exact hp)]; exact e, fun _ h => .inl h⟩

section
variable {G : Gx} {t t' : List Addr} {H H' : Hp}
mutual
theorem RD.mono (le : Le t t') (e : Ext H H') : ∀ {d : D} {v : V}, RD G t H d v → RD G t' H' d v
  | _, _, .non => .non
  | _, _, .bl b => .bl b
  | _, _, .int i => .int i
  | _, _, .str x => .str x
  | _, _, .ty n => .ty n
  | _, _, .tup s r => .tup (rd_of e s) (RDs.mono le e r)
  | _, _, .lst s r => .lst (sqF_of e s) (RDs.mono le e r)
  | _, _, .dct s r => .dct (dqF_of e s) (RDk.mono le e r)
  | _, _, .ref h => .ref (le _ _ h)
  | _, _, .fn h => .fn h
  | _, _, .cls h => .cls h
theorem RDs.mono (le : Le t t') (e : Ext H H') : ∀ {d : List D} {v : List V}, RDs G t H d v → RDs G t' H' d v
  | _, _, .nil => .nil
  | _, _, .cons r s => .cons (RD.mono le e r) (RDs.mono le e s)
theorem RDk.mono (le : Le t t') (e : Ext H H') : ∀ {d : List (D × D)} {v : List (Key × V)}, RDk G t H d v → RDk G t' H' d v
  | _, _, .nil => .nil
  | _, _, .cons r s => .cons (RD.mono le e r) (RDk.mono le e s)
end
theorem RDs.length : ∀ {ds : List D} {vs : List V}, RDs G t H ds vs → ds.length = vs.length
  | _, _, .nil => rfl
  | _, _, .cons _ r => by rw [List.length_cons, List.length_cons, RDs.length r]
theorem RDs.append : ∀ {ds es : List D} {vs us : List V}, RDs G t H ds vs → RDs G t H es us → RDs G t H (ds ++ es) (vs ++ us)
  | _, _, _, _, .nil, s => s
  | _, _, _, _, .cons a r, s => .cons a (RDs.append r s)
theorem RDs.get : ∀ {ds : List D} {vs : List V} {i : Nat} {d : D}, RDs G t H ds vs → ds[i]? = some d → ∃ v, vs[i]? = some v ∧ RD G t H d v
  | _, _, _, _, .nil, e => by simp at e
  | _, _, 0, _, .cons r _, e => by simp at e; subst e; exact ⟨_, rfl, r⟩
  | _, _, i + 1, d, .cons _ r, e => by
    obtain ⟨v, h1, h2⟩ := RDs.get (i := i) (d := d) r (by simpa using e)
    exact ⟨v, by simpa using h1, h2⟩
theorem RDs.get' : ∀ {ds : List D} {vs : List V} {i : Nat} {v : V}, RDs G t H ds vs → vs[i]? = some v → ∃ d, ds[i]? = some d ∧ RD G t H d v
  | _, _, _, _, .nil, e => by simp at e
  | _, _, 0, _, .cons r _, e => by simp at e; subst e; exact ⟨_, rfl, r⟩
  | _, _, i + 1, d, .cons _ r, e => by
    obtain ⟨v, h1, h2⟩ := RDs.get' (i := i) (v := d) r (by simpa using e)
    exact ⟨v, by simpa using h1, h2⟩
theorem RDs.take : ∀ {ds : List D} {vs : List V} (n : Nat), RDs G t H ds vs → RDs G t H (ds.take n) (vs.take n)
  | _, _, 0, _ => by simpa using RDs.nil
  | _, _, _ + 1, .nil => .nil
  | _, _, n + 1, .cons r s => .cons r (RDs.take n s)
theorem RDs.drop : ∀ {ds : List D} {vs : List V} (n : Nat), RDs G t H ds vs → RDs G t H (ds.drop n) (vs.drop n)
  | _, _, 0, r => r
  | _, _, _ + 1, .nil => .nil
  | _, _, n + 1, .cons _ s => RDs.drop n s
theorem RDs.set {d : D} {v : V} (r : RD G t H d v) : ∀ {ds : List D} {vs : List V} (i : Nat), RDs G t H ds vs → RDs G t H (ds.set i d) (vs.set i v)
  | _, _, _, .nil => .nil
  | _, _, 0, .cons _ s => .cons r s
  | _, _, i + 1, .cons q s => .cons q (RDs.set r i s)
theorem RDs.rep {ds : List D} {vs : List V} (r : RDs G t H ds vs) : ∀ n : Nat, RDs G t H (List.replicate n ds).flatten (List.replicate n vs).flatten
  | 0 => .nil
  | n + 1 => by rw [List.replicate_succ, List.replicate_succ, List.flatten_cons, List.flatten_cons]; exact r.append (RDs.rep r n)

/-- fields of an instance, of an exception -/
def RF (G : Gx) (t : List Addr) (H : Hp) (fs : List (Str × D)) (vs : List (Str × V)) : Prop := fs.map (·.1) = vs.map (·.1) ∧ RDs G t H (fs.map (·.2)) (vs.map (·.2))
theorem RF.mono (le : Le t t') (e : Ext H H') {fs : List (Str × D)} {vs : List (Str × V)} (h : RF G t H fs vs) : RF G t' H' fs vs := ⟨h.1, h.2.mono le e⟩
def RKs (G : Gx) (t : List Addr) (H : Hp) (fs : List (Key × D)) (vs : List (Key × V)) : Prop := fs.map (·.1) = vs.map (·.1) ∧ RDs G t H (fs.map (·.2)) (vs.map (·.2))
theorem RKs.mono (le : Le t t') (e : Ext H H') {fs : List (Key × D)} {vs : List (Key × V)} (h : RKs G t H fs vs) : RKs G t' H' fs vs := ⟨h.1, h.2.mono le e⟩

/-- a mutable thing at its address -/
def OR (G : Gx) (t : List Addr) (H : Hp) : O → Addr → Prop
  | .lst ds, p => ∃ vs, H p = some (.lst vs) ∧ RDs G t H ds vs
  | .ins c fs, p => ∃ C dx vs, G.ca c = some C ∧ H p = some (.ins C dx vs) ∧ RF G t H fs vs
  | .dct kds, p => ∃ kvs, H p = some (.dK kvs) ∧ RKs G t H kds kvs
  | .dead, _ => True
/-- the store -/
structure SS (G : Gx) (t : List Addr) (H : Hp) (m : Sto) : Prop where
  len : t.length = m.length
  ob : ∀ (l : Nat) (o : O), m[l]? = some o → ∃ p, t[l]? = some p ∧ OR G t H o p
  kn : ∀ a, a ∈ t → ∃ u, H a = some u
  inj : ∀ (l l' : Nat) (o o' : O) (p : Addr), m[l]? = some o → m[l']? = some o' → o ≠ .dead → o' ≠ .dead → t[l]? = some p → t[l']? = some p → l = l'
/-- the names -/
structure SE (G : Gx) (t : List Addr) (H : Hp) (r : Env) (s : St) : Prop where
  len : r.length = s.length
  at_ : ∀ (i : Nat) (d : D), r[i]? = some (some d) → ∃ v, s[i]? = some (some v) ∧ RD G t H d v
theorem SE.mono (le : Le t t') (e : Ext H H') {r : Env} {s : St} (h : SE G t H r s) : SE G t' H' r s := ⟨h.len, fun i d q => let ⟨v, a, b⟩ := h.at_ i d q; ⟨v, a, b.mono le e⟩⟩
end

/-! ### the ends of actions -/
/-- an operation's end -/
def KO (G : Gx) (r : Option (D × Sto)) (t : List Addr) (H : Hp) (Q : VK) : Prop := match r with
  | some (d, m) => ∀ v H' t', Stp t H t' H' → SS G t' H' m → RD G t' H' d v → Q v H'
  | none => False
/-- an exception as it is told: its class, its own dict -/
def RX (G : Gx) (t : List Addr) (H : Hp) (k : Nat) (fs : List (Str × D)) (cls : Value) (da : Option Addr) : Prop :=
  (∃ C, G.ca k = some C ∧ cls = .ref C) ∧ (fs = [] ∨ ∃ a vs, da = some a ∧ H a = some (.xd vs) ∧ RF G t H fs vs)
/-- an action's end: values, exceptions -/
def KE {α β : Type} (G : Gx) (W : WX) (s : St) (rel : List Addr → Hp → α → β → Prop) (r : R α) (t : List Addr) (H : Hp) (Q : β → Hp → Prop) : Prop := match r with
  | .ok d m => ∀ v H' t', Stp t H t' H' → SS G t' H' m → rel t' H' d v → Q v H'
  | .exc k fs m => ∀ cls da H' t', Stp t H t' H' → SS G t' H' m → RX G t' H' k fs cls da → W cls da s H'
  | .stuck => False
abbrev relD (G : Gx) : List Addr → Hp → D → V → Prop := fun t H d v => RD G t H d v
abbrev relB : List Addr → Hp → Bool → Bool → Prop := fun _ _ b c => c = b
abbrev relDs (G : Gx) : List Addr → Hp → List D → List V → Prop := fun t H d v => RDs G t H d v
/-- readings of actions -/
def Rd {α β : Type} (G : Gx) (W : WX) (rel : List Addr → Hp → α → β → Prop) (m : M α) : St → Hp → (β → Hp → Prop) → Prop := fun s H Q =>
  ∃ r μ t, SE G t H r s ∧ SS G t H μ ∧ KE G W s rel (m r μ) t H Q
abbrev RdE (G : Gx) (W : WX) (m : M D) : TE := Rd G W (relD G) m
abbrev RdT (G : Gx) (W : WX) (m : M Bool) : TT := Rd G W relB m
abbrev RdA (G : Gx) (W : WX) (m : M (List D)) : TA := Rd G W (relDs G) m

theorem PE.imp {X : Cx} {e : Expr} {t u : TE} (h : PE X e t) (i : ∀ s H Q, u s H Q → t s H Q) : PE X e u := ⟨fun pins s σ H Q I q => h.run pins s σ H Q I (i _ _ _ q)⟩
theorem PT.imp {X : Cx} {e : Expr} {t u : TT} (h : PT X e t) (i : ∀ s H Q, u s H Q → t s H Q) : PT X e u := ⟨fun pins s σ H Q I q => h.run pins s σ H Q I (i _ _ _ q)⟩
theorem PW.imp {X : Cx} {e : Expr} {t u : TT} (h : PW X e t) (i : ∀ s H Q, u s H Q → t s H Q) : PW X e u := ⟨fun wh pins s σ H Q I q => h.run wh pins s σ H Q I (i _ _ _ q)⟩
theorem PA.imp {X : Cx} {e : List Expr} {t u : TA} (h : PA X e t) (i : ∀ s H Q, u s H Q → t s H Q) : PA X e u := ⟨fun p pins s σ H Q I q => h.run p pins s σ H Q I (i _ _ _ q)⟩

section
variable {G : Gx} {W : WX} {s : St} {t t1 : List Addr} {H H1 : Hp} {α β γ δ : Type} {rel : List Addr → Hp → α → β → Prop} {rel2 : List Addr → Hp → γ → δ → Prop}
/-- behind a step the end may be asked from there -/
theorem KE.later {r : R γ} {Q : δ → Hp → Prop} (e : Stp t H t1 H1) (h : KE G W s rel2 r t H Q) : KE G W s rel2 r t1 H1 Q := by
  cases r with
  | ok d m => exact fun v H' t' e' a b => h v H' t' (e.trans e') a b
  | exc k fs m => exact fun c da H' t' e' a b => h c da H' t' (e.trans e') a b
  | stuck => exact h
/-- THE BIND: an action that begins with another one -/
theorem Rd.bind {m1 : M α} {f : α → M γ} {Q : δ → Hp → Prop} {t' : St → Hp → (β → Hp → Prop) → Prop}
    (h : Rd G W rel2 (fun r μ => (m1 r μ).bind fun a μ' => f a r μ') s H Q) :
    Rd G W rel m1 s H fun v H1 => ∃ (a : α) (r : Env) (μ : Sto) (t : List Addr), SE G t H1 r s ∧ SS G t H1 μ ∧ rel t H1 a v ∧ KE G W s rel2 (f a r μ) t H1 Q := by
  obtain ⟨r, μ, t, se, ss, k⟩ := h
  refine ⟨r, μ, t, se, ss, ?_⟩
  cases e : m1 r μ with
  | ok a μ' =>
    simp only [e, R.bind] at k
    exact fun v H' t' ex s' rl => ⟨a, r, μ', t', se.mono ex.le ex.ex, s', rl, k.later ex⟩
  | exc kk fs μ' =>
    simp only [e, R.bind] at k
    exact k
  | stuck =>
    simp only [e, R.bind] at k
    exact k
end
end DI

set_option Elab.async false
set_option linter.all false
set_option maxRecDepth 100000
set_option maxHeartbeats 1000000
/-! DIB: freezing, operations on deep values and their rules. -/
namespace DI
open PySem PySem.Spec L2
open PyProof.Rows hiding St

/-! ### freezing -/
section
variable {X : Cx} {pins : List (Addr × Obj)} {σ : St} {H : Hp} {s : Shared} {p : Addr} {o u : HO} {ob : Obj}
/-- an object may be frozen as it stands -/
theorem frozen_inv (I : Inv X pins σ H s) (h : H p = some o) (nt : ∀ xs, o ≠ .tup xs) (nf : ∀ b v, o ≠ .frz b v) (nb : ∀ ps, o ≠ .tbl ps) (no : ∀ a, o ≠ .own a) (e : s.heap.get? p = some ob) : Inv X pins σ (upd H p (.frz ob o)) s := by
  have n1 : ∀ b xs, H b = some (.tup xs) → b ≠ p := fun b xs q z => by subst z; rw [q] at h; cases h; exact nt _ rfl
  have n2 : ∀ b x xs, H b = some (.frz x xs) → b ≠ p := fun b x xs q z => by subst z; rw [q] at h; cases h; exact nf _ _ rfl
  have n3 : ∀ b x, H b = some (.tbl x) → b ≠ p := fun b x q z => by subst z; rw [q] at h; cases h; exact nb _ rfl
  have n4 : ∀ b x, H b = some (.own x) → b ≠ p := fun b x q z => by subst z; rw [q] at h; cases h; exact no _ rfl
  have n0 : ∀ b, H b = none → b ≠ p := fun b q z => by subst z; rw [q] at h; cases h
  refine ⟨I.ok, I.os, I.bare, ⟨I.base.keep, I.base.slot, fun b x q n hx => ?_, I.base.there, fun b xs q => ?_, fun b x xs q => ?_, fun b ps q => ?_⟩, I.loc, I.cell, ?_, fun x c q => ?_, fun q hq => ?_, fun b v q => ?_, I.len⟩
  · rw [upd_ne (n0 b (I.base.free b x q n hx))]; exact I.base.free b x q n hx
  · rw [upd_ne (n1 b xs (I.base.tups b xs q))]; exact I.base.tups b xs q
  · rw [upd_ne (n2 b x xs (I.base.frzs b x xs q))]; exact I.base.frzs b x xs q
  · obtain ⟨more, z⟩ := I.base.tbls b ps q
    exact ⟨more, by rw [upd_ne (n3 b _ z)]; exact z⟩
  · rw [upd_ne (n0 _ I.free)]; exact I.free
  · rw [upd_ne (n0 _ (I.freeC x c q))]; exact I.freeC x c q
  · obtain ⟨a, b, c⟩ := I.pin q hq
    exact ⟨a, by rw [upd_ne (n0 _ b)]; exact b, c⟩
  · by_cases hb : b = p
    · subst hb
      rw [upd_same] at q; cases q
      refine ⟨e, (I.hok b o h).stay (fun _ _ _ z => z) (fun c z => ?_) fun c xs z => ?_⟩
      · rw [upd_ne (n4 c _ z)]; exact z
      · rw [upd_ne (n1 c xs z)]; exact z
    · rw [upd_ne hb] at q
      refine (I.hok b v q).stay (fun _ _ _ z => z) (fun c z => ?_) fun c xs z => ?_
      · rw [upd_ne (n4 c _ z)]; exact z
      · rw [upd_ne (n1 c xs z)]; exact z
theorem frz_lst {xs : List V} (I : Inv X pins σ H s) (h : H p = some (.lst xs)) : ∃ ob, Inv X pins σ (upd H p (.frz ob (.lst xs))) s := by
  obtain ⟨_, its, n, _, e⟩ := I.hok p _ h
  exact ⟨_, frozen_inv I h (fun _ z => nomatch z) (fun _ _ z => nomatch z) (fun _ z => nomatch z) (fun _ z => nomatch z) e⟩
theorem frz_dK {xs : List (Key × V)} (I : Inv X pins σ H s) (h : H p = some (.dK xs)) : ∃ ob, Inv X pins σ (upd H p (.frz ob (.dK xs))) s := by
  obtain ⟨_, _, vs, _, ob, _, _, e, _⟩ := I.hok p _ h
  exact ⟨_, frozen_inv I h (fun _ z => nomatch z) (fun _ _ z => nomatch z) (fun _ z => nomatch z) (fun _ z => nomatch z) e⟩
end
/-- what is wanted of a new list that is to be frozen -/
def WantF (Q : VK) : VK := fun v H1 => ∃ p xs, v = .ref p ∧ H1 p = some (.lst xs) ∧ ∀ o, Q v (upd H1 p (.frz o (.lst xs)))
def WantFd (Q : VK) : VK := fun v H1 => ∃ p xs, v = .ref p ∧ H1 p = some (.dK xs) ∧ ∀ o, Q v (upd H1 p (.frz o (.dK xs)))
section
variable {X : Cx} {pins : List (Addr × Obj)} {σ : St} {H : Hp} {s : Shared} {Q : VK} {u : Value}
theorem ep_frz (h : EP X pins σ (WantF Q) u s) : EP X pins σ Q u s := by
  obtain ⟨v, H', I, r, p, xs, rfl, hp, q⟩ := h
  obtain ⟨ob, J⟩ := frz_lst I hp
  exact ⟨_, _, J, r, q ob⟩
theorem ep_frzd (h : EP X pins σ (WantFd Q) u s) : EP X pins σ Q u s := by
  obtain ⟨v, H', I, r, p, xs, rfl, hp, q⟩ := h
  obtain ⟨ob, J⟩ := frz_dK I hp
  exact ⟨_, _, J, r, q ob⟩
theorem pe_frz {e : Expr} {t : TE} (h : PE X e t) : PE X e (fun σ H Q => t σ H (WantF Q)) := ⟨fun pins s σ H Q I q => thn (h.run pins s σ H _ I q) fun _ _ z => ep_frz z⟩
theorem pe_frzd {e : Expr} {t : TE} (h : PE X e t) : PE X e (fun σ H Q => t σ H (WantFd Q)) := ⟨fun pins s σ H Q I q => thn (h.run pins s σ H _ I q) fun _ _ z => ep_frzd z⟩
theorem op_frz {f : Value → Value → Sem Value} {r : R2} (h : OpR X f r) : OpR X f (fun x y H Q => r x y H (WantF Q)) := fun pins s σ H x y v u Q I rx ry q => thn (h pins s σ H x y v u _ I rx ry q) fun _ _ z => ep_frz z
theorem call_frz {f : Value} {r : List V → Hp → VK → Prop} (h : CallR X f r) : CallR X f (fun xs H Q => r xs H (WantF Q)) := fun pins s σ H xs us Q I r q => thn (h pins s σ H xs us _ I r q) fun _ _ z => ep_frz z
theorem sl_frz {r : V → Option Int → Option Int → Hp → VK → Prop} (h : SlR X r) : SlR X (fun x lo hi H Q => r x lo hi H (WantF Q)) := fun pins s σ H x v vl vu lo hi sl Q I rv hs pl pu q =>
  let ⟨T, id, a, b, c⟩ := h pins s σ H x v vl vu lo hi sl _ I rv hs pl pu q
  ⟨T, id, a, b, thn c fun _ _ z => ep_frz z⟩
end

/-! ### stores and the heap -/
section
variable {G : Gx} {t : List Addr} {H : Hp} {m : Sto} {p : Addr}
theorem OR.mono {t' : List Addr} {H' : Hp} {o : O} (le : Le t t') (e : Ext H H') (k : ∀ u, H p = some u → Soft u → H' p = some u) (h : OR G t H o p) : OR G t' H' o p := by
  cases o with
  | lst ds => obtain ⟨vs, a, b⟩ := h; exact ⟨vs, k _ a trivial, b.mono le e⟩
  | ins c fs => obtain ⟨C, dx, vs, a, b, r⟩ := h; exact ⟨C, dx, vs, a, k _ b trivial, r.mono le e⟩
  | dct kds => obtain ⟨vs, a, b⟩ := h; exact ⟨vs, k _ a trivial, b.mono le e⟩
  | dead => trivial
/-- a new object that the store does not know -/
theorem SS.new {o : HO} (h : SS G t H m) (hp : H p = none) : SS G t (upd H p o) m :=
  ⟨h.len, fun l x q => let ⟨a, b, c⟩ := h.ob l x q; ⟨a, b, c.mono (Le.refl t) (Ext.new hp) fun u hu _ => by rw [upd_ne (ne_of_none hu hp)]; exact hu⟩, fun a q => let ⟨u, e⟩ := h.kn a q; ⟨u, by rw [upd_ne (ne_of_none e hp)]; exact e⟩, h.inj⟩
/-- an object outside of the store is changed -/
theorem SS.out {o u : HO} (h : SS G t H m) (hp : p ∉ t) (e : H p = some o) (s : Soft o) : SS G t (upd H p u) m := by
  have ne : ∀ a, a ∈ t → a ≠ p := fun a q z => hp (by rw [← z]; exact q)
  refine ⟨h.len, fun l x q => ?_, fun a q => let ⟨u, e⟩ := h.kn a q; ⟨u, by rw [upd_ne (ne a q)]; exact e⟩, h.inj⟩
  obtain ⟨a, b, c⟩ := h.ob l x q
  exact ⟨a, b, c.mono (Le.refl t) (Ext.put e s) fun u hu _ => by rw [upd_ne (ne a (List.mem_of_getElem? b))]; exact hu⟩
theorem KO.now {d : D} {v : V} {Q : VK} (k : KO G (some (d, m)) t H Q) (ss : SS G t H m) (r : RD G t H d v) : Q v H := k v H t (Stp.refl t H) ss r
theorem KO.tup {ds : List D} {vs : List V} {Q : VK} (k : KO G (some (.tup ds, m)) t H Q) (ss : SS G t H m) (r : RDs G t H ds vs) (hp : H p = none) : Q (.ref p) (upd H p (.tup vs)) :=
  k _ _ t (Stp.fresh hp) (ss.new hp) (.tup (.inl (.inl upd_same)) (r.mono (Le.refl t) (Ext.new hp)))
theorem KO.lst {ds : List D} {vs : List V} {Q : VK} (k : KO G (some (.lst ds, m)) t H Q) (ss : SS G t H m) (r : RDs G t H ds vs) (hp : H p = none) : WantF Q (.ref p) (upd H p (.lst vs)) :=
  ⟨p, vs, rfl, upd_same, fun o => by
    rw [upd_upd]
    exact k _ _ t (Stp.fresh hp) (ss.new hp) (.lst ⟨o, upd_same⟩ (r.mono (Le.refl t) (Ext.new hp)))⟩
end

/-! ### plain data, equality -/
mutual
def toPy : D → Option PyData
  | .non => some .none
  | .bl b => some (.bool b)
  | .int i => some (.int i)
  | .str x => some (.str x)
  | .tup xs => (toPys xs).map .tuple
  | .lst xs => (toPys xs).map .list
  | .dct kvs => (toPyK kvs).map .dict
  | _ => none
def toPys : List D → Option (List PyData)
  | [] => some []
  | x :: r => match toPy x, toPys r with
    | some a, some b => some (a :: b)
    | _, _ => none
def toPyK : List (D × D) → Option (List (PyData × PyData))
  | [] => some []
  | (k, v) :: r => match toPy k, toPy v, toPyK r with
    | some a, some b, some c => some ((a, b) :: c)
    | _, _, _ => none
end
def hasDct (d : PyData) : Bool := d.hasDict
section
variable {G : Gx} {t : List Addr} {H : Hp}
mutual
theorem RD.dp : ∀ {d : D} {v : V} {y : PyData}, RD G t H d v → toPy d = some y → y.hasDict = false → Dp G.K H v y
  | _, _, _, .non, e, _ => by simp only [toPy, Option.some.injEq] at e; subst e; exact .non
  | _, _, _, .bl b, e, _ => by simp only [toPy, Option.some.injEq] at e; subst e; exact .bl b
  | _, _, _, .int b, e, _ => by simp only [toPy, Option.some.injEq] at e; subst e; exact .int b
  | _, _, _, .str b, e, _ => by simp only [toPy, Option.some.injEq] at e; subst e; exact .str b
  | _, _, _, .ty _, e, _ => by simp [toPy] at e
  | _, _, _, .tup s r, e, n => by
    simp only [toPy, Option.map_eq_some_iff] at e
    obtain ⟨ys, e1, rfl⟩ := e
    exact .tup s (RDs.dp r e1 (by simpa [PyData.hasDict] using n))
  | _, _, _, .lst s r, e, n => by
    simp only [toPy, Option.map_eq_some_iff] at e
    obtain ⟨ys, e1, rfl⟩ := e
    exact .lst s.l (RDs.dp r e1 (by simpa [PyData.hasDict] using n))
  | _, _, _, .dct s r, e, n => by
    simp only [toPy, Option.map_eq_some_iff] at e
    obtain ⟨ys, e1, rfl⟩ := e
    simp [PyData.hasDict] at n
  | _, _, _, .ref _, e, _ => by simp [toPy] at e
  | _, _, _, .fn _, e, _ => by simp [toPy] at e
  | _, _, _, .cls _, e, _ => by simp [toPy] at e
theorem RDs.dp : ∀ {d : List D} {v : List V} {y : List PyData}, RDs G t H d v → toPys d = some y → PyData.hasDictAll y = false → DpAll G.K H v y
  | _, _, _, .nil, e, _ => by simp only [toPys, Option.some.injEq] at e; subst e; exact .nil
  | _, _, _, .cons (d := d) (ds := ds) a b, e, n => by
    simp only [toPys] at e
    cases e1 : toPy d with
    | none => rw [e1] at e; simp at e
    | some y =>
      cases e2 : toPys ds with
      | none => rw [e1, e2] at e; simp at e
      | some ys =>
        rw [e1, e2] at e
        simp only [Option.some.injEq] at e
        subst e
        have n' : y.hasDict = false ∧ PyData.hasDictAll ys = false := by simpa [PyData.hasDictAll] using n
        exact .cons (RD.dp a e1 n'.1) (RDs.dp b e2 n'.2)
end
end
/-- == of data (dicts within: not asked) -/
def eqD (a b : D) : Option Bool := match toPy a, toPy b with
  | some x, some y => if SeqAt.shaped x && SeqAt.shaped y then some (PyData.eqv x y) else none
  | _, _ => none
theorem shaped_nodict {y : PyData} (h : SeqAt.shaped y = true) : y.hasDict = false := PyData.hasDict_of_canLay y (SeqAt.canLay_of_shaped h)
theorem eqD_some {a b : D} {r : Bool} (h : eqD a b = some r) : ∃ x y, toPy a = some x ∧ toPy b = some y ∧ SeqAt.shaped x = true ∧ SeqAt.shaped y = true ∧ r = PyData.eqv x y := by
  unfold eqD at h
  cases e1 : toPy a with
  | none => rw [e1] at h; simp at h
  | some x =>
    cases e2 : toPy b with
    | none => rw [e1, e2] at h; simp at h
    | some y =>
      rw [e1, e2] at h
      simp only at h
      split at h
      · rename_i c
        cases h
        obtain ⟨c1, c2⟩ := Bool.and_eq_true_iff.mp c
        exact ⟨x, y, rfl, rfl, c1, c2, rfl⟩
      · cases h
end DI

set_option Elab.async false
set_option linter.all false
set_option maxRecDepth 100000
set_option maxHeartbeats 4000000
/-! DIC: operators, comparisons, subscripts on deep values, and their rules. -/
namespace DI
open PySem PySem.Spec L2
open PyProof.Rows hiding St

def lim : Nat := 1000000
theorem lim_le {n : Nat} (h : n ≤ lim) : n ≤ sizeLine := Nat.le_trans h (by decide)
theorem lim_lt {n : Nat} (h : n < lim) : n < sizeLine := Nat.lt_of_lt_of_le h (by decide)
/-- values of a binary operator; none: not served -/
def binV (op : Operator) (a b : D) : Option D := match op, a, b with
  | .Add, .int i, .int j => some (.int (i + j))
  | .Add, .str x, .str y => if x.length + y.length ≤ lim then some (.str (x ++ y)) else none
  | .Add, .tup xs, .tup ys => if xs.length + ys.length ≤ lim then some (.tup (xs ++ ys)) else none
  | .Add, .lst xs, .lst ys => if xs.length + ys.length ≤ lim then some (.lst (xs ++ ys)) else none
  | .Sub, .int i, .int j => some (.int (i - j))
  | .Mult, .int i, .int j => if i.natAbs.log2 + j.natAbs.log2 < 1000000 then some (.int (i * j)) else none
  | .Mult, .lst xs, .int k => if -(2 ^ 63) ≤ k ∧ k < 2 ^ 63 ∧ xs.length * k.toNat ≤ lim then some (.lst (List.replicate k.toNat xs).flatten) else none
  | .Mult, .tup xs, .int k => if 1 ≤ k ∧ k ≤ 1000 ∧ xs.length ≤ 1000 ∧ xs ≠ [] then some (.tup (List.replicate k.toNat xs).flatten) else none
  | .FloorDiv, .int i, .int j => if j ≠ 0 ∧ j.natAbs.log2 < 9000 then some (.int (i.fdiv j)) else none
  | .Mod, .int i, .int j => if j ≠ 0 then some (.int (i.fmod j)) else none
  | .Pow, .int i, .int j => if 0 ≤ j ∧ j ≤ 1000000 ∧ i.natAbs < 2 ^ 64 then some (.int (i ^ j.toNat)) else none
  | _, _, _ => none
instance : Decidable (xs = ([] : List D)) := match xs with
  | [] => isTrue rfl
  | _ :: _ => isFalse (fun z => nomatch z)

abbrev O2 := D → D → Sto → Option (D × Sto)
def binS (op : Operator) : O2 := fun a b m => (binV op a b).map fun d => (d, m)
def rO2 (G : Gx) (f : O2) : R2 := fun x y H Q => ∃ d1 d2 m t, SS G t H m ∧ RD G t H d1 x ∧ RD G t H d2 y ∧ KO G (f d1 d2 m) t H Q
theorem ko_map {G : Gx} {o : Option D} {m : Sto} {t : List Addr} {H : Hp} {Q : VK} (k : KO G (o.map fun d => (d, m)) t H Q) : ∃ d, o = some d ∧ KO G (some (d, m)) t H Q := by
  cases o with
  | none => exact k.elim
  | some d => exact ⟨d, rfl, k⟩

section
variable {X : Cx}
theorem tuple_mul1 (l : Addr) (items : Array Value) (n : Nat) (dd : Option Addr) (sl : Array (Option Value)) (u : Tok) :
    Meets (Builtin.«tuple.__mul__» ⟨[.ref l, .int 1 u], []⟩) (fun _ R s => s.heap.get? l = some { cls := .type "tuple", dict := dd, data := .seq items n, slots := sl } ∧ R (.ok (.ret (Value.ref l))) s) :=
  .of_wp fun prog w A R s h => by
    obtain ⟨hp, g, d, tk, os⟩ := s
    obtain ⟨hl, h⟩ := h
    have f1 := AutoSeq1.idx_int
    have c0 : (decide ((1 : Int) < -(2 ^ 63)) || decide ((1 : Int) ≥ 2 ^ 63)) = false := by decide
    have c1 : (items.isEmpty || (1 : Int) == 1) = true := by simp
    wp_walk using wpAny_loadPart' hl
    repeat (first
      | (refine wpAny_ite_false (decide_eq_false (by rw [c0]; exact Bool.false_ne_true)) ?_; wp_walk using wpAny_loadPart' hl)
      | (refine wpAny_ite_true (decide_eq_true (by rw [c1])) ?_; wp_walk using wpAny_loadPart' hl))
    exact ⟨_, rfl, h⟩
/-- a tuple times one: itself -/
theorem op_rep1 : OpR X (binaryOp .Mult) (fun x y H Q => ∃ l xs, x = .ref l ∧ y = .int 1 ∧ SqT X.K H l xs ∧ Q (.ref l) H) := by
  intro pins s σ H x y v u Q I rx ry h
  obtain ⟨l, xs, rfl, rfl, hT, q⟩ := h
  cases rx
  obtain ⟨t, rfl⟩ := ry
  obtain ⟨its, r, ⟨⟨cls, dd, data, sl⟩, ho, hc, n, hd⟩, hs⟩ := I.tuple hT
  simp only at hc hd
  subst hc hd
  refine wpAny_binaryOp_repeat_ref (T := "tuple") (U := "int") (by decide) ⟨_, ho, rfl⟩ (fun s' => typeIs_int s' 1 t) noFill_tuple_mul F.fills_int_mul F.slot_int_rmul repeat_tuple F.slot_int_index.lookup
    (call_meets F.slot_int_rmul (typeIs_int s 1 t) F.entry_int_rmul (F.args_int_rmul_2 _ _) (int_rmul_tuple 1 t l its.toArray n dd sl)
      ⟨ho, rfl, ⟨_, ho, rfl⟩, call_meets F.slot_tuple_mul ⟨_, ho, rfl⟩ F.entry_tuple_mul (F.args_tuple_mul_2 _ _) (tuple_mul1 l its.toArray n dd sl t) ⟨ho, ?_⟩⟩)
  exact ⟨.ref l, H, I, rfl, q⟩
/-- the list that is read: mutable or frozen -/
def LsAt (H : Hp) (p : Addr) (xs : List V) : Prop := H p = some (.lst xs) ∨ SqF H p xs
theorem lsAt_obj {pins : List (Addr × Obj)} {σ : St} {H : Hp} {s : Shared} {l : Addr} {xs : List V} (I : Inv X pins σ H s) (hH : LsAt H l xs) : xs.length ≤ sizeLine ∧ ∃ (its : List Value) (n : Nat), Vals xs its ∧ xs.length = its.length ∧ s.heap.get? l = some { cls := .type "list", data := .seq its.toArray n } := by
  rcases hH with h | ⟨o, h⟩
  · obtain ⟨z, its, n, r, e⟩ := I.hok l _ h
    exact ⟨z, its, n, r, r.length, e⟩
  · obtain ⟨_, z, its, n, r, e⟩ := I.hok l _ h
    exact ⟨z, its, n, r, r.length, e⟩
theorem op_catF : OpR X (binaryOp .Add) (fun x y H Q => ∃ l b xs zs, x = .ref l ∧ y = .ref b ∧ LsAt H l xs ∧ LsAt H b zs ∧ xs.length + zs.length ≤ sizeLine ∧ ∀ p, H p = none → Q (.ref p) (upd H p (.lst (xs ++ zs)))) := by
  intro pins s σ H x y v u Q I rx ry h
  obtain ⟨l, b, xs, zs, rfl, rfl, hH, hB, hz, q⟩ := h
  cases rx
  cases ry
  obtain ⟨z, its, n, r, hl, e⟩ := lsAt_obj I hH
  obtain ⟨z2, its2, n2, r2, hl2, e2⟩ := lsAt_obj I hB
  refine PySem.P.add_list e e2 ?_ (by rw [List.size_toArray, List.size_toArray]; omega)
  have ea : its.toArray ++ its2.toArray = (its ++ its2).toArray := by simp
  rw [ea]
  exact ⟨.ref _, _, I.lnew (t' := s.toks) (r.append r2) (by rw [List.length_append]; omega), rfl, q _ I.fresh⟩
theorem op_repF : OpR X (binaryOp .Mult) (fun x y H Q => ∃ l k xs, x = .ref l ∧ y = .int k ∧ LsAt H l xs ∧ -(2 ^ 63) ≤ k ∧ k < 2 ^ 63 ∧ xs.length * k.toNat ≤ sizeLine ∧ ∀ p, H p = none → Q (.ref p) (upd H p (.lst (List.replicate k.toNat xs).flatten))) := by
  intro pins s σ H x y v u Q I rx ry h
  obtain ⟨l, k, xs, rfl, rfl, hH, h1, h2, hz, q⟩ := h
  cases rx
  obtain ⟨t, rfl⟩ := ry
  obtain ⟨z, its, n, r, hl, e⟩ := lsAt_obj I hH
  have lenk : its.toArray.size * k.toNat ≤ sizeLine := by rw [List.size_toArray, ← hl]; exact hz
  have capk : ¬ its.toArray.size * k.toNat > (2 ^ 63 - 1) / 8 := by
    have : (sizeLine : Nat) ≤ (2 ^ 63 - 1) / 8 := by decide
    omega
  have fitk : ¬ (!Builtin.List.listFitsIndex k) = true := by
    rw [PySem.fitsIndex_both h1 h2]; exact Bool.false_ne_true
  have longk : ¬ Builtin.List.listTooLong (its.toArray.size * k.toNat) = true := by
    rw [notLongL lenk]; exact Bool.false_ne_true
  have newk : List.foldl (fun x1 x2 => x1 ++ x2) #[] (List.replicate (if its.toArray.isEmpty = true then 0 else k.toNat) its.toArray) = (List.replicate k.toNat its).flatten.toArray := by
    have f0 : ∀ m : Nat, List.foldl (fun x1 x2 => x1 ++ x2) #[] (List.replicate m its.toArray) = (List.replicate m its).flatten.toArray := fun m => size_rep its m
    rw [f0]
    cases its with
    | nil => simp
    | cons a r' => rw [if_neg (by simp)]
  refine wpAny_binaryOp_repeat_ref (T := "list") (U := "int") (by decide) ⟨_, e, rfl⟩ (fun s' => typeIs_int s' k t) noFill_list_mul F.fills_int_mul F.slot_int_rmul repeat_list F.slot_int_index.lookup
    (call_meets F.slot_int_rmul (typeIs_int s k t) F.entry_int_rmul (F.args_int_rmul_2 _ _) (int___rmul___int_list k t l its.toArray n)
      ⟨e, rfl, ⟨_, e, rfl⟩, call_meets F.slot_list_mul ⟨_, e, rfl⟩ F.entry_list_mul (F.args_list_mul_2 _ _) (AutoListH.list___mul___list_int_3 l its.toArray n k t fitk capk longk) ⟨e, ?_⟩⟩)
  rw [newk]
  exact ⟨.ref _, _, I.lnew (t' := s.toks) (r.rep k.toNat) (by rw [PyProof.Rows.lm_len_rep_flat, Nat.mul_comm]; exact hz), rfl, q _ I.fresh⟩
def CMulX (i j : Int) : Prop := i.natAbs.log2 + j.natAbs.log2 < 1000000
theorem op_mulX : OpR X (binaryOp .Mult) (rI CMulX fun i j => .int (i * j)) := opI fun _ _ _ _ _ _ _ hc q => mul_int q (CMulW.ok (show CMulW _ _ from hc))
theorem op_fdivX : OpR X (binaryOp .FloorDiv) (rI (fun _ j => j ≠ 0 ∧ j.natAbs.log2 < 9000) fun i j => .int (i.fdiv j)) := opI fun _ _ _ _ _ _ _ hc q => floordiv_int hc.1 q (.inl (PyProof.noPylong_of_log2 hc.2))

variable {G : Gx}
theorem op_bin (hK : G.K = X.K) (op : Operator) : OpR X (binaryOp op) (rO2 G (binS op)) := by
  intro pins s σ H x y v u Q I rx ry h
  obtain ⟨d1, d2, m, t, ss, r1, r2, k⟩ := h
  obtain ⟨d, e, k⟩ := ko_map k
  unfold binV at e
  split at e
  · cases e; cases r1; cases r2
    exact op_add pins s σ H _ _ v u Q I rx ry ⟨_, _, rfl, rfl, k.now ss (.int _)⟩
  · split at e
    · rename_i c; cases e; cases r1; cases r2
      exact op_add_str pins s σ H _ _ v u Q I rx ry ⟨_, _, rfl, rfl, lim_le c, k.now ss (.str _)⟩
    · cases e
  · split at e
    · rename_i c; cases e
      cases r1 with
      | tup s1 q1 =>
        cases r2 with
        | tup s2 q2 =>
          rw [hK] at s1 s2
          refine op_catA pins s σ H _ _ v u Q I rx ry ⟨_, _, _, _, rfl, rfl, s1, s2, ?_, fun z => ?_, fun _ z => ?_, fun _ _ p hp => k.tup ss (q1.append q2) hp⟩
          · rw [← q1.length, ← q2.length]; exact lim_le c
          · subst z; cases q1
            exact k.now ss (.tup (by rw [hK]; exact s2) q2)
          · subst z; cases q2
            refine k.now ss (.tup (by rw [hK]; exact s1) ?_)
            rw [List.append_nil]; exact q1
    · cases e
  · split at e
    · rename_i c; cases e
      cases r1 with
      | lst s1 q1 =>
        cases r2 with
        | lst s2 q2 =>
          refine op_frz op_catF pins s σ H _ _ v u Q I rx ry ⟨_, _, _, _, rfl, rfl, .inr s1, .inr s2, ?_, fun p hp => k.lst ss (q1.append q2) hp⟩
          rw [← q1.length, ← q2.length]; exact lim_le c
    · cases e
  · cases e; cases r1; cases r2
    exact op_sub pins s σ H _ _ v u Q I rx ry ⟨_, _, rfl, rfl, k.now ss (.int _)⟩
  · split at e
    · rename_i c; cases e; cases r1; cases r2
      exact op_mulX pins s σ H _ _ v u Q I rx ry ⟨_, _, rfl, rfl, c, k.now ss (.int _)⟩
    · cases e
  · split at e
    · rename_i c; cases e
      cases r2
      cases r1 with
      | lst s1 q1 =>
        refine op_frz op_repF pins s σ H _ _ v u Q I rx ry ⟨_, _, _, rfl, rfl, .inr s1, c.1, c.2.1, ?_, fun p hp => k.lst ss (q1.rep _) hp⟩
        rw [← q1.length]; exact lim_le c.2.2
    · cases e
  · split at e
    · rename_i xs i c; cases e
      obtain ⟨c1, c2, c3, c4⟩ := c
      cases r2
      cases r1 with
      | tup s1 q1 =>
        rename_i a vs
        rw [hK] at s1
        by_cases z : i = 1
        · subst z
          refine op_rep1 pins s σ H _ _ v u Q I rx ry ⟨_, _, rfl, rfl, s1, k.now ss (.tup (by rw [hK]; exact s1) ?_)⟩
          simpa using q1
        · refine op_repT pins s σ H _ _ v u Q I rx ry ⟨_, _, _, rfl, rfl, s1, ?_, by omega, c2, by rw [← q1.length]; exact c3, fun p hp => k.tup ss (q1.rep _) hp⟩
          intro z2
          subst z2
          cases q1
          exact c4 rfl
    · cases e
  · split at e
    · rename_i c; cases e; cases r1; cases r2
      exact op_fdivX pins s σ H _ _ v u Q I rx ry ⟨_, _, rfl, rfl, c, k.now ss (.int _)⟩
    · cases e
  · split at e
    · rename_i c; cases e; cases r1; cases r2
      exact op_modN pins s σ H _ _ v u Q I rx ry ⟨_, _, rfl, rfl, c, k.now ss (.int _)⟩
    · cases e
  · split at e
    · rename_i c; cases e; cases r1; cases r2
      exact op_pow pins s σ H _ _ v u Q I rx ry ⟨_, _, rfl, rfl, c, k.now ss (.int _)⟩
    · cases e
  · cases e

/-! ### comparisons -/
def isBase : D → Bool
  | .non => true | .bl _ => true | .int _ => true | .str _ => true
  | _ => false
def eqFl (x y : D) : Bool := match x, y with
  | .non, .non => true
  | .bl a, .bl b => a == b
  | .bl a, .int b => (if a then 1 else 0) == b
  | .int a, .bl b => a == (if b then 1 else 0)
  | .int a, .int b => a == b
  | .str a, .str b => a == b
  | _, _ => false
def inFl (x : D) (xs : List D) : Option Bool := if isBase x && xs.all isBase then some (xs.any fun y => eqFl y x) else none
def isV : D → D → Option Bool
  | .bl a, .bl b => some (a == b)
  | .non, .non => some true
  | _, .non => some false
  | _, _ => none
def cmpB (op : CmpOp) (a b : D) : Option Bool := match op, a, b with
  | .Lt, .int i, .int j => some (decide (i < j))
  | .LtE, .int i, .int j => some (decide (i ≤ j))
  | .Gt, .int i, .int j => some (decide (j < i))
  | .GtE, .int i, .int j => some (decide (j ≤ i))
  | .Eq, .str x, .str y => some (x == y)
  | .NotEq, .str x, .str y => some (!(x == y))
  | .Eq, .int x, .int y => some (x == y)
  | .NotEq, .int x, .int y => some (!(x == y))
  | .Eq, a, b => eqD a b
  | .NotEq, a, b => (eqD a b).map fun r => !r
  | .Is, a, b => isV a b
  | .IsNot, a, b => (isV a b).map fun r => !r
  | .In, .str x, .str y => some (!(Builtin.Str.occurrences y x 0 y.length 1).isEmpty)
  | .NotIn, .str x, .str y => some (!(!(Builtin.Str.occurrences y x 0 y.length 1).isEmpty))
  | .In, x, .tup ys => inFl x ys
  | .In, x, .lst ys => inFl x ys
  | .NotIn, x, .tup ys => (inFl x ys).map fun r => !r
  | .NotIn, x, .lst ys => (inFl x ys).map fun r => !r
  | _, _, _ => none
def cmpS (op : CmpOp) : O2 := fun a b m => (cmpB op a b).map fun r => (.bl r, m)
theorem base_flat {t : List Addr} {H : Hp} {d : D} {v : V} (r : RD G t H d v) (h : isBase d = true) : flatV v = true := by
  cases r <;> first | rfl | (simp [isBase] at h)
theorem base_eq {t : List Addr} {H : Hp} {d e : D} {v u : V} (r : RD G t H d v) (q : RD G t H e u) : eqV v u = eqFl d e := by
  cases r <;> cases q <;> first | rfl | (simp [eqV, eqFl])
theorem base_all {t : List Addr} {H : Hp} : ∀ {ds : List D} {vs : List V}, RDs G t H ds vs → ds.all isBase = true → vs.all flatV = true
  | _, _, .nil, _ => rfl
  | _, _, .cons a b, h => by
    simp only [List.all_cons, Bool.and_eq_true] at h ⊢
    exact ⟨base_flat a h.1, base_all b h.2⟩
theorem base_any {t : List Addr} {H : Hp} {x : D} {w : V} (q : RD G t H x w) : ∀ {ds : List D} {vs : List V}, RDs G t H ds vs → inV w vs = ds.any fun y => eqFl y x
  | _, _, .nil => rfl
  | _, _, .cons a b => by
    have ih := base_any q b
    unfold inV at ih ⊢
    rw [List.any_cons, List.any_cons, ih, base_eq a q]
theorem inFl_some {x : D} {xs : List D} {r : Bool} (h : inFl x xs = some r) : isBase x = true ∧ xs.all isBase = true ∧ r = xs.any fun y => eqFl y x := by
  unfold inFl at h
  split at h
  · rename_i c
    obtain ⟨c1, c2⟩ := Bool.and_eq_true_iff.mp c
    cases h
    exact ⟨c1, c2, rfl⟩
  · cases h
theorem isV_bl {a b : D} {r : Bool} (h : isV a b = some r) : (∃ x y, a = .bl x ∧ b = .bl y ∧ r = (x == y)) ∨ (b = .non ∧ ∀ {t : List Addr} {H : Hp} {v : V}, RD G t H a v → r = decide (v = .non)) := by
  unfold isV at h
  split at h
  · cases h; exact .inl ⟨_, _, rfl, rfl, rfl⟩
  · cases h; exact .inr ⟨rfl, fun q => by cases q; rfl⟩
  · rename_i n1
    cases h
    refine .inr ⟨rfl, fun q => ?_⟩
    cases q <;> first | (exact absurd rfl n1) | simp
  · cases h
/-- what the one comparison asks of the room -/
theorem op_cmp (hK : G.K = X.K) (hu : X.A.units + 64 < cLine) (op : CmpOp) : OpR X (compareOp op) (rO2 G (cmpS op)) := by
  intro pins s σ H x y v u Q I rx ry h
  obtain ⟨d1, d2, m, t, ss, r1, r2, k⟩ := h
  have k' : KO G ((cmpB op d1 d2).map fun r => (D.bl r, m)) t H Q := k
  clear k
  obtain ⟨b, e, k⟩ : ∃ b, cmpB op d1 d2 = some b ∧ KO G (some (D.bl b, m)) t H Q := by
    cases z : cmpB op d1 d2 with
    | none => rw [z] at k'; exact k'.elim
    | some b => rw [z] at k'; exact ⟨b, rfl, k'⟩
  have fin : Q (.bl b) H := k.now ss (.bl _)
  unfold cmpB at e
  split at e
  · cases e; cases r1; cases r2; exact op_lt pins s σ H _ _ v u Q I rx ry ⟨_, _, rfl, rfl, fin⟩
  · cases e; cases r1; cases r2; exact op_le pins s σ H _ _ v u Q I rx ry ⟨_, _, rfl, rfl, fin⟩
  · cases e; cases r1; cases r2; exact op_gt pins s σ H _ _ v u Q I rx ry ⟨_, _, rfl, rfl, fin⟩
  · cases e; cases r1; cases r2; exact op_ge pins s σ H _ _ v u Q I rx ry ⟨_, _, rfl, rfl, fin⟩
  · cases e; cases r1; cases r2; exact op_eq pins s σ H _ _ v u Q I rx ry ⟨rfl, by rw [dec_str]; exact fin⟩
  · cases e; cases r1; cases r2; exact op_ne pins s σ H _ _ v u Q I rx ry ⟨rfl, by rw [dec_str]; exact fin⟩
  · cases e; cases r1; cases r2; exact op_eq pins s σ H _ _ v u Q I rx ry ⟨rfl, by rw [dec_int]; exact fin⟩
  · cases e; cases r1; cases r2; exact op_ne pins s σ H _ _ v u Q I rx ry ⟨rfl, by rw [dec_int]; exact fin⟩
  · obtain ⟨x1, y1, e1, e2, s1, s2, rfl⟩ := eqD_some e
    have p1 := RD.dp r1 e1 (shaped_nodict s1)
    have p2 := RD.dp r2 e2 (shaped_nodict s2)
    rw [hK] at p1 p2
    exact op_eqD hu pins s σ H _ _ v u Q I rx ry ⟨_, _, p1, p2, s1, s2, fin⟩
  · obtain ⟨b', e', rfl⟩ := Option.map_eq_some_iff.mp e
    obtain ⟨x1, y1, e1, e2, s1, s2, rfl⟩ := eqD_some e'
    have p1 := RD.dp r1 e1 (shaped_nodict s1)
    have p2 := RD.dp r2 e2 (shaped_nodict s2)
    rw [hK] at p1 p2
    exact op_neD hu pins s σ H _ _ v u Q I rx ry ⟨_, _, p1, p2, s1, s2, fin⟩
  · rcases isV_bl e with ⟨x1, y1, rfl, rfl, rfl⟩ | ⟨rfl, q⟩
    · cases r1; cases r2
      exact op_is_bl pins s σ H _ _ v u Q I rx ry ⟨_, _, rfl, rfl, by rw [← Bool.beq_eq_decide_eq]; exact fin⟩
    · cases r2
      exact op_isN pins s σ H _ _ v u Q I rx ry ⟨rfl, by rw [← q r1]; exact fin⟩
  · obtain ⟨b', e', rfl⟩ := Option.map_eq_some_iff.mp e
    rcases isV_bl e' with ⟨x1, y1, rfl, rfl, rfl⟩ | ⟨rfl, q⟩
    · cases r1; cases r2
      exact op_isnot_bl pins s σ H _ _ v u Q I rx ry ⟨_, _, rfl, rfl, by rw [← Bool.beq_eq_decide_eq]; exact fin⟩
    · cases r2
      exact op_notN pins s σ H _ _ v u Q I rx ry ⟨rfl, by rw [← q r1]; exact fin⟩
  · cases e; cases r1; cases r2; exact op_in_str pins s σ H _ _ v u Q I rx ry ⟨_, _, rfl, rfl, fin⟩
  · cases e; cases r1; cases r2; exact op_notin_str pins s σ H _ _ v u Q I rx ry ⟨_, _, rfl, rfl, fin⟩
  · obtain ⟨f1, f2, rfl⟩ := inFl_some e
    cases r2 with
    | tup s1 q1 =>
      rw [hK] at s1
      exact op_in_seq pins s σ H _ _ v u Q I rx ry ⟨_, _, rfl, .inr s1, base_flat r1 f1, base_all q1 f2, by rw [base_any r1 q1]; exact fin⟩
  · obtain ⟨f1, f2, rfl⟩ := inFl_some e
    cases r2 with
    | lst s1 q1 => exact op_in_seq pins s σ H _ _ v u Q I rx ry ⟨_, _, rfl, .inl s1.l, base_flat r1 f1, base_all q1 f2, by rw [base_any r1 q1]; exact fin⟩
  · obtain ⟨b', e', rfl⟩ := Option.map_eq_some_iff.mp e
    obtain ⟨f1, f2, rfl⟩ := inFl_some e'
    cases r2 with
    | tup s1 q1 =>
      rw [hK] at s1
      exact op_notIn_seq pins s σ H _ _ v u Q I rx ry ⟨_, _, rfl, .inr s1, base_flat r1 f1, base_all q1 f2, by rw [base_any r1 q1]; exact fin⟩
  · obtain ⟨b', e', rfl⟩ := Option.map_eq_some_iff.mp e
    obtain ⟨f1, f2, rfl⟩ := inFl_some e'
    cases r2 with
    | lst s1 q1 => exact op_notIn_seq pins s σ H _ _ v u Q I rx ry ⟨_, _, rfl, .inl s1.l, base_flat r1 f1, base_all q1 f2, by rw [base_any r1 q1]; exact fin⟩
  · cases e
end
end DI

set_option Elab.async false
set_option linter.all false
set_option maxRecDepth 100000
set_option maxHeartbeats 4000000
/-! DID: truth, subscripts, slices, calls of built-ins on deep values, and their rules. -/
namespace DI
open PySem PySem.Spec L2
open PyProof.Rows hiding St

section
variable {X : Cx} {G : Gx}
/-! ### what a reference holds -/
theorem SS.lst {t : List Addr} {H : Hp} {m : Sto} {l : Nat} {xs : List D} {a : Addr} (ss : SS G t H m) (h : m[l]? = some (.lst xs)) (ha : t[l]? = some a) : ∃ vs, H a = some (.lst vs) ∧ RDs G t H xs vs := by
  obtain ⟨p, e, o⟩ := ss.ob l _ h
  rw [ha] at e; cases e
  exact o
/-! ### truth -/
def truO (d : D) (m : Sto) : Option Bool := match d with
  | .non => some false
  | .bl b => some b
  | .int i => some (i != 0)
  | .str x => if x.length ≤ lim then some ((x.length : Int) != 0) else none
  | .tup xs => some (!xs.isEmpty)
  | .lst xs => some (!xs.isEmpty)
  | .ref l => match m[l]? with
    | some (.lst xs) => some (!xs.isEmpty)
    | _ => none
  | _ => none
def rTru (G : Gx) : V → Hp → (Bool → Hp → Prop) → Prop := fun x H Q => ∃ d m t b, SS G t H m ∧ RD G t H d x ∧ truO d m = some b ∧ Q b H
theorem RDs.empty {t : List Addr} {H : Hp} {ds : List D} {vs : List V} (r : RDs G t H ds vs) : (!vs.isEmpty) = !ds.isEmpty := by cases r <;> rfl
theorem truV_di (hK : G.K = X.K) {t : List Addr} {H : Hp} {m : Sto} {d : D} {x : V} {b : Bool} (ss : SS G t H m) (r : RD G t H d x) (e : truO d m = some b) : TruV X.K x H b := by
  unfold truO at e
  split at e
  · cases e; cases r; rfl
  · cases e; cases r; rfl
  · cases e; cases r; rfl
  · split at e
    · rename_i c; cases e; cases r; exact ⟨lim_le c, rfl⟩
    · cases e
  · cases e
    cases r with
    | tup s1 q1 => rw [hK] at s1; exact .inr (.inl ⟨_, s1, q1.empty.symm⟩)
  · cases e
    cases r with
    | lst s1 q1 => exact .inl ⟨_, s1.l, q1.empty.symm⟩
  · split at e
    · rename_i hl
      cases e
      cases r with
      | ref ha =>
        obtain ⟨vs, hv, q1⟩ := ss.lst hl ha
        exact .inl ⟨_, .inl (.inl hv), q1.empty.symm⟩
    · cases e
  · cases e
/-! ### one operand -/
abbrev O1 := D → Sto → Option (D × Sto)
def unV (op : UnaryOp) (a : D) : Option D := match op, a with
  | .USub, .int i => some (.int (-i))
  | _, _ => none
def unS (op : UnaryOp) : O1 := fun a m => (unV op a).map fun d => (d, m)
def rO1 (G : Gx) (f : O1) : V → Hp → VK → Prop := fun x H Q => ∃ d m t, SS G t H m ∧ RD G t H d x ∧ KO G (f d m) t H Q
theorem un_di (op : UnaryOp) : UnR X (unaryOp op) (rO1 G (unS op)) := by
  intro pins s σ H x v Q I rx h
  obtain ⟨d, m, t, ss, r, k⟩ := h
  obtain ⟨d', e, k⟩ := ko_map k
  unfold unV at e
  split at e
  · cases e; cases r
    exact un_neg pins s σ H _ v Q I rx ⟨_, rfl, k.now ss (.int _)⟩
  · cases e
/-! ### subscripts -/
def ixO : O2 := fun a i m => match a, i with
  | .lst xs, .int i => (atI xs i).map fun d => (d, m)
  | .tup xs, .int i => (atI xs i).map fun d => (d, m)
  | .str z, .int i => if z.length ≤ lim then (atI z.cps.toList i).map fun c => (.str ⟨#[c]⟩, m) else none
  | .ref l, .int i => match m[l]? with
    | some (.lst xs) => (atI xs i).map fun d => (d, m)
    | _ => none
  | _, _ => none
theorem RDs.at {t : List Addr} {H : Hp} {ds : List D} {vs : List V} {i : Int} {d : D} (r : RDs G t H ds vs) (e : atI ds i = some d) : ∃ v, atI vs i = some v ∧ RD G t H d v := by
  unfold atI at e ⊢
  rw [← r.length]
  cases q : ixN ds.length i with
  | none => rw [q] at e; cases e
  | some j =>
    rw [q] at e
    exact r.get e
theorem ix_di (hK : G.K = X.K) : IxR X (rO2 G ixO) := by
  intro value slice pins s σ H x y v u Q I rx ry h hs
  obtain ⟨d1, d2, m, t, ss, r1, r2, k⟩ := h
  unfold ixO at k
  split at k
  · obtain ⟨d, e, k⟩ := ko_map k
    cases r2
    cases r1 with
    | lst s1 q1 =>
      obtain ⟨w, hw, rw'⟩ := q1.at e
      exact ix_list value slice pins s σ H _ _ v u Q I rx ry ⟨_, _, _, _, rfl, rfl, s1.l, hw, k.now ss rw'⟩ hs
  · obtain ⟨d, e, k⟩ := ko_map k
    cases r2
    cases r1 with
    | tup s1 q1 =>
      rw [hK] at s1
      obtain ⟨w, hw, rw'⟩ := q1.at e
      exact ix_tup value slice pins s σ H _ _ v u Q I rx ry ⟨_, _, _, _, rfl, rfl, s1, hw, k.now ss rw'⟩ hs
  · split at k
    · rename_i z i c
      cases e : atI z.cps.toList i with
      | none => rw [e] at k; exact k.elim
      | some cc =>
        rw [e] at k
        cases r1; cases r2
        exact ix_str value slice pins s σ H _ _ v u Q I rx ry ⟨_, _, _, rfl, rfl, lim_le c, e, KO.now k ss (.str _)⟩ hs
    · exact k.elim
  · split at k
    · rename_i hl
      obtain ⟨d, e, k⟩ := ko_map k
      cases r2
      cases r1 with
      | ref ha =>
        obtain ⟨vs, hv, q1⟩ := ss.lst hl ha
        obtain ⟨w, hw, rw'⟩ := q1.at e
        exact ix_list value slice pins s σ H _ _ v u Q I rx ry ⟨_, _, _, _, rfl, rfl, .inl (.inl hv), hw, k.now ss rw'⟩ hs
    · exact k.elim
  · exact k.elim
/-- xs[lo:hi] -/
def cutD {α : Type} (xs : List α) (lo hi : Option Int) : List α := (xs.drop (HT.sIx xs.length 0 lo)).take (HT.sIx xs.length xs.length hi - HT.sIx xs.length 0 lo)
theorem RDs.cut {t : List Addr} {H : Hp} {ds : List D} {vs : List V} (r : RDs G t H ds vs) (lo hi : Option Int) : RDs G t H (cutD ds lo hi) (cutV vs lo hi) := by
  unfold cutD cutV
  rw [r.length]
  exact (r.drop _).take _
def slO (a : D) (lo hi : Option Int) (m : Sto) : Option (D × Sto) := match a with
  | .lst xs => some (.lst (cutD xs lo hi), m)
  | .tup xs => some (.tup (cutD xs lo hi), m)
  | .str z => if z.length ≤ lim then some (.str (Txt.slice z lo hi), m) else none
  | .ref l => match m[l]? with
    | some (.lst xs) => some (.lst (cutD xs lo hi), m)
    | _ => none
  | _ => none
def rSlO (G : Gx) : V → Option Int → Option Int → Hp → VK → Prop := fun x lo hi H Q => ∃ d m t, SS G t H m ∧ RD G t H d x ∧ KO G (slO d lo hi m) t H Q
theorem cut_whole {α : Type} {xs : List α} {lo hi : Option Int} (h : HT.sIx xs.length 0 lo = 0 ∧ HT.sIx xs.length xs.length hi = xs.length) : cutD xs lo hi = xs := by
  unfold cutD
  rw [h.1, h.2, List.drop_zero, Nat.sub_zero, List.take_length]
theorem sl_di (hK : G.K = X.K) : SlR X (rSlO G) := by
  intro pins s σ H x v vl vu lo hi sl Q I rx hs pl pu h
  obtain ⟨d, m, t, ss, r, k⟩ := h
  unfold slO at k
  split at k
  · cases r with
    | lst s1 q1 => exact sl_frz sl_list pins s σ H _ v vl vu lo hi sl Q I rx hs pl pu ⟨_, _, rfl, s1.l, fun p hp => KO.lst k ss (q1.cut lo hi) hp⟩
  · cases r with
    | tup s1 q1 =>
      refine sl_tupA pins s σ H _ v vl vu lo hi sl Q I rx hs pl pu ⟨_, _, rfl, by rw [← hK]; exact s1, fun z => ?_, fun _ p hp => KO.tup k ss (q1.cut lo hi) hp⟩
      rw [← q1.length] at z
      rw [cut_whole z] at k
      exact KO.now k ss (.tup s1 q1)
  · split at k
    · rename_i c
      cases r
      exact C8.sl_txt pins s σ H _ v vl vu lo hi sl Q I rx hs pl pu ⟨_, rfl, lim_le c, KO.now k ss (.str _)⟩
    · exact k.elim
  · split at k
    · rename_i hl
      cases r with
      | ref ha =>
        obtain ⟨vs, hv, q1⟩ := ss.lst hl ha
        exact sl_frz sl_list pins s σ H _ v vl vu lo hi sl Q I rx hs pl pu ⟨_, _, rfl, .inl (.inl hv), fun p hp => KO.lst k ss (q1.cut lo hi) hp⟩
    · exact k.elim
  · exact k.elim
/-! ### calls of built-ins -/
abbrev ON := List D → Sto → Option (D × Sto)
def rON (G : Gx) (f : ON) : List V → Hp → VK → Prop := fun xs H Q => ∃ ds m t, SS G t H m ∧ RDs G t H ds xs ∧ KO G (f ds m) t H Q
theorem RDs.one {t : List Addr} {H : Hp} {d : D} {vs : List V} (r : RDs G t H [d] vs) : ∃ v, vs = [v] ∧ RD G t H d v := by
  cases r with
  | cons a b => cases b; exact ⟨_, rfl, a⟩
theorem RDs.two {t : List Addr} {H : Hp} {d e : D} {vs : List V} (r : RDs G t H [d, e] vs) : ∃ v w, vs = [v, w] ∧ RD G t H d v ∧ RD G t H e w := by
  cases r with
  | cons a b =>
    obtain ⟨w, rfl, q⟩ := b.one
    exact ⟨_, _, rfl, a, q⟩
/-- items of something that is read: lists, tuples, references to lists -/
def itemsO (d : D) (m : Sto) : Option (List D) := match d with
  | .lst xs => some xs
  | .tup xs => some xs
  | .ref l => match m[l]? with
    | some (.lst xs) => some xs
    | _ => none
  | _ => none
theorem items_at {t : List Addr} {H : Hp} {m : Sto} {d : D} {v : V} {xs : List D} (ss : SS G t H m) (r : RD G t H d v) (e : itemsO d m = some xs) : ∃ p vs, v = .ref p ∧ (SqL G.K H p vs ∨ SqT G.K H p vs) ∧ RDs G t H xs vs := by
  unfold itemsO at e
  split at e
  · cases e; cases r with
    | lst s q => exact ⟨_, _, rfl, .inl s.l, q⟩
  · cases e; cases r with
    | tup s q => exact ⟨_, _, rfl, .inr s, q⟩
  · split at e
    · rename_i hl; cases e
      cases r with
      | ref ha =>
        obtain ⟨vs, hv, q⟩ := ss.lst hl ha
        exact ⟨_, _, rfl, .inl (.inl (.inl hv)), q⟩
    · cases e
  · cases e
def lenO : ON := fun ds m => match ds with
  | [.str x] => if x.length ≤ lim then some (.int x.length, m) else none
  | [d] => (itemsO d m).map fun xs => (.int xs.length, m)
  | _ => none
theorem call_len_di (hK : G.K = X.K) : CallR X (.builtin "len") (rON G lenO) := by
  intro pins s σ H xs us Q I r h
  obtain ⟨ds, m, t, ss, rd, k⟩ := h
  unfold lenO at k
  split at k
  · split at k
    · rename_i c
      obtain ⟨v, rfl, q⟩ := rd.one
      cases q
      exact call_len_str pins s σ H _ us Q I r ⟨_, rfl, lim_le c, KO.now k ss (.int _)⟩
    · exact k.elim
  · obtain ⟨v, rfl, q⟩ := rd.one
    rename_i d _
    cases e : itemsO d m with
    | none => rw [e] at k; exact k.elim
    | some ys =>
      rw [e] at k
      obtain ⟨p, vs, rfl, hv, q'⟩ := items_at ss q e
      rw [hK] at hv
      exact call_len_seq pins s σ H _ us Q I r ⟨_, _, rfl, hv, by rw [← q'.length]; exact KO.now k ss (.int _)⟩
  · exact k.elim
def absO : ON := fun ds m => match ds with
  | [.int i] => some (.int (if i < 0 then -i else i), m)
  | _ => none
theorem call_abs_di : CallR X (.builtin "abs") (rON G absO) := by
  intro pins s σ H xs us Q I r h
  obtain ⟨ds, m, t, ss, rd, k⟩ := h
  unfold absO at k
  split at k
  · obtain ⟨v, rfl, q⟩ := rd.one
    cases q
    exact call_abs pins s σ H _ us Q I r ⟨_, rfl, KO.now k ss (.int _)⟩
  · exact k.elim
def maxO : ON := fun ds m => match ds with
  | [.int i, .int j] => some (.int (if j > i then j else i), m)
  | _ => none
def minO : ON := fun ds m => match ds with
  | [.int i, .int j] => some (.int (if j < i then j else i), m)
  | _ => none
theorem call_max_di (hc : X.calm = true) : CallR X (.builtin "max") (rON G maxO) := by
  intro pins s σ H xs us Q I r h
  obtain ⟨ds, m, t, ss, rd, k⟩ := h
  unfold maxO at k
  split at k
  · obtain ⟨v, w, rfl, q, q'⟩ := rd.two
    cases q; cases q'
    exact call_max2 hc pins s σ H _ us Q I r ⟨_, _, rfl, KO.now k ss (.int _)⟩
  · exact k.elim
theorem call_min_di (hc : X.calm = true) : CallR X (.builtin "min") (rON G minO) := by
  intro pins s σ H xs us Q I r h
  obtain ⟨ds, m, t, ss, rd, k⟩ := h
  unfold minO at k
  split at k
  · obtain ⟨v, w, rfl, q, q'⟩ := rd.two
    cases q; cases q'
    exact call_min2 hc pins s σ H _ us Q I r ⟨_, _, rfl, KO.now k ss (.int _)⟩
  · exact k.elim
def intO : ON := fun ds m => match ds with
  | [.int i] => some (.int i, m)
  | [.bl b] => some (.int (if b then 1 else 0), m)
  | _ => none
theorem call_int_di : CallR X (.type "int") (rON G intO) := by
  intro pins s σ H xs us Q I r h
  obtain ⟨ds, m, t, ss, rd, k⟩ := h
  unfold intO at k
  split at k
  · obtain ⟨v, rfl, q⟩ := rd.one
    cases q
    exact call_int1 pins s σ H _ us Q I r (.inl ⟨_, rfl, KO.now k ss (.int _)⟩)
  · obtain ⟨v, rfl, q⟩ := rd.one
    cases q
    exact call_int1 pins s σ H _ us Q I r (.inr ⟨_, rfl, KO.now k ss (.int _)⟩)
  · exact k.elim
def strO : ON := fun ds m => match ds with
  | [.int i] => if i.natAbs.log2 < 1920 then some (.str (toString i), m) else none
  | _ => none
theorem call_str_di : CallR X (.type "str") (rON G strO) := by
  intro pins s σ H xs us Q I r h
  obtain ⟨ds, m, t, ss, rd, k⟩ := h
  unfold strO at k
  split at k
  · split at k
    · rename_i c
      obtain ⟨v, rfl, q⟩ := rd.one
      cases q
      exact call_str_int pins s σ H _ us Q I r ⟨_, rfl, c, KO.now k ss (.str _)⟩
    · exact k.elim
  · exact k.elim
def tupleO : ON := fun ds m => match ds with
  | [d] => (itemsO d m).map fun xs => (.tup xs, m)
  | _ => none
theorem call_tuple_di (hK : G.K = X.K) : CallR X (.type "tuple") (rON G tupleO) := by
  intro pins s σ H xs us Q I r h
  obtain ⟨ds, m, t, ss, rd, k⟩ := h
  unfold tupleO at k
  split at k
  · obtain ⟨v, rfl, q⟩ := rd.one
    rename_i d
    cases e : itemsO d m with
    | none => rw [e] at k; exact k.elim
    | some ys =>
      rw [e] at k
      obtain ⟨p, vs, rfl, hv, q'⟩ := items_at ss q e
      rcases hv with hv | hv
      · exact call_tuple_of pins s σ H _ us Q I r ⟨_, _, rfl, .inl ⟨by rw [← hK]; exact hv, fun l hl => KO.tup k ss q' hl⟩⟩
      · exact call_tuple_of pins s σ H _ us Q I r ⟨_, _, rfl, .inr ⟨by rw [← hK]; exact hv, KO.now k ss (.tup hv q')⟩⟩
  · exact k.elim
/-- list(..): a frozen copy -/
def listO : ON := fun ds m => match ds with
  | [d] => (itemsO d m).map fun xs => (.lst xs, m)
  | _ => none
theorem call_list_di (hK : G.K = X.K) : CallR X (.type "list") (rON G listO) := by
  intro pins s σ H xs us Q I r h
  obtain ⟨ds, m, t, ss, rd, k⟩ := h
  unfold listO at k
  split at k
  · obtain ⟨v, rfl, q⟩ := rd.one
    rename_i d
    cases e : itemsO d m with
    | none => rw [e] at k; exact k.elim
    | some ys =>
      rw [e] at k
      obtain ⟨p, vs, rfl, hv, q'⟩ := items_at ss q e
      rw [hK] at hv
      exact call_frz call_list_of pins s σ H _ us Q I r ⟨_, _, rfl, hv, fun l hl => KO.lst k ss q' hl⟩
  · exact k.elim
/-! any, all, sum -/
def blsOf : List D → Option (List Bool)
  | [] => some []
  | .bl b :: r => (blsOf r).map fun bs => b :: bs
  | _ => none
def intsOf : List D → Option (List Int)
  | [] => some []
  | .int b :: r => (intsOf r).map fun bs => b :: bs
  | _ => none
theorem bls_vals {t : List Addr} {H : Hp} : ∀ {ds : List D} {vs : List V} {bs : List Bool}, RDs G t H ds vs → blsOf ds = some bs → vs = bs.map V.bl
  | [], _, _, .nil, e => by simp only [blsOf, Option.some.injEq] at e; subst e; rfl
  | .bl b :: r, _, bs, .cons a q, e => by
    simp only [blsOf, Option.map_eq_some_iff] at e
    obtain ⟨cs, e1, rfl⟩ := e
    cases a
    rw [bls_vals q e1]; rfl
  | .non :: _, _, _, _, e => by simp [blsOf] at e
  | .int _ :: _, _, _, _, e => by simp [blsOf] at e
  | .str _ :: _, _, _, _, e => by simp [blsOf] at e
  | .tup _ :: _, _, _, _, e => by simp [blsOf] at e
  | .lst _ :: _, _, _, _, e => by simp [blsOf] at e
  | .dct _ :: _, _, _, _, e => by simp [blsOf] at e
  | .ref _ :: _, _, _, _, e => by simp [blsOf] at e
  | .fn _ :: _, _, _, _, e => by simp [blsOf] at e
  | .cls _ :: _, _, _, _, e => by simp [blsOf] at e
  | .ty _ :: _, _, _, _, e => by simp [blsOf] at e
  | .exc _ _ :: _, _, _, _, e => by simp [blsOf] at e
theorem ints_vals {t : List Addr} {H : Hp} : ∀ {ds : List D} {vs : List V} {bs : List Int}, RDs G t H ds vs → intsOf ds = some bs → vs = bs.map V.int
  | [], _, _, .nil, e => by simp only [intsOf, Option.some.injEq] at e; subst e; rfl
  | .int b :: r, _, bs, .cons a q, e => by
    simp only [intsOf, Option.map_eq_some_iff] at e
    obtain ⟨cs, e1, rfl⟩ := e
    cases a
    rw [ints_vals q e1]; rfl
  | .non :: _, _, _, _, e => by simp [intsOf] at e
  | .bl _ :: _, _, _, _, e => by simp [intsOf] at e
  | .str _ :: _, _, _, _, e => by simp [intsOf] at e
  | .tup _ :: _, _, _, _, e => by simp [intsOf] at e
  | .lst _ :: _, _, _, _, e => by simp [intsOf] at e
  | .dct _ :: _, _, _, _, e => by simp [intsOf] at e
  | .ref _ :: _, _, _, _, e => by simp [intsOf] at e
  | .fn _ :: _, _, _, _, e => by simp [intsOf] at e
  | .cls _ :: _, _, _, _, e => by simp [intsOf] at e
  | .ty _ :: _, _, _, _, e => by simp [intsOf] at e
  | .exc _ _ :: _, _, _, _, e => by simp [intsOf] at e
def anyO : ON := fun ds m => match ds with
  | [.lst xs] => (blsOf xs).map fun bs => (.bl (bs.any id), m)
  | _ => none
def allO : ON := fun ds m => match ds with
  | [.lst xs] => (blsOf xs).map fun bs => (.bl (bs.all id), m)
  | _ => none
def sumO : ON := fun ds m => match ds with
  | [.lst xs] => (intsOf xs).map fun bs => (.int bs.sum, m)
  | _ => none
theorem call_any_di (hc : X.calm = true) : CallR X (.builtin "any") (rON G anyO) := by
  intro pins s σ H xs us Q I r h
  obtain ⟨ds, m, t, ss, rd, k⟩ := h
  unfold anyO at k
  split at k
  · obtain ⟨v, rfl, q⟩ := rd.one
    rename_i ys
    cases e : blsOf ys with
    | none => rw [e] at k; exact k.elim
    | some bs =>
      rw [e] at k
      cases q with
      | lst s1 q1 =>
        have z := bls_vals q1 e
        subst z
        exact cr_any hc pins s σ H _ us Q I r ⟨_, _, rfl, s1.l, KO.now k ss (.bl _)⟩
  · exact k.elim
theorem call_all_di (hc : X.calm = true) : CallR X (.builtin "all") (rON G allO) := by
  intro pins s σ H xs us Q I r h
  obtain ⟨ds, m, t, ss, rd, k⟩ := h
  unfold allO at k
  split at k
  · obtain ⟨v, rfl, q⟩ := rd.one
    rename_i ys
    cases e : blsOf ys with
    | none => rw [e] at k; exact k.elim
    | some bs =>
      rw [e] at k
      cases q with
      | lst s1 q1 =>
        have z := bls_vals q1 e
        subst z
        exact cr_all hc pins s σ H _ us Q I r ⟨_, _, rfl, s1.l, KO.now k ss (.bl _)⟩
  · exact k.elim
theorem call_sum_di (hc : X.calm = true) : CallR X (.builtin "sum") (rON G sumO) := by
  intro pins s σ H xs us Q I r h
  obtain ⟨ds, m, t, ss, rd, k⟩ := h
  unfold sumO at k
  split at k
  · obtain ⟨v, rfl, q⟩ := rd.one
    rename_i ys
    cases e : intsOf ys with
    | none => rw [e] at k; exact k.elim
    | some bs =>
      rw [e] at k
      cases q with
      | lst s1 q1 =>
        have z := ints_vals q1 e
        subst z
        exact cr_sum hc pins s σ H _ us Q I r ⟨_, _, rfl, s1.l, KO.now k ss (.int _)⟩
  · exact k.elim
end
end DI

set_option Elab.async false
set_option linter.all false
set_option maxRecDepth 100000
set_option maxHeartbeats 4000000
/-! DIE: repr, isinstance on deep values. -/
namespace DI
open PySem PySem.Spec L2
open PyProof.Rows hiding St

section
variable {X : Cx} {G : Gx}
/-- what repr writes; dicts: the empty one alone -/
def reprO : ON := fun ds m => match ds with
  | [.dct []] => some (.str (PyData.shown (.dict [])), m)
  | [d] => match toPy d with
    | some y => if SeqAt.shaped y = true ∧ y.showable = true ∧ y.shown.length ≤ lim then some (.str y.shown, m) else none
    | none => none
  | _ => none
theorem shown_empty : (PyData.shown (.dict [])).length ≤ sizeLine := by
  have : (PyData.shown (.dict [])).length ≤ 100 := by decide +kernel
  exact Nat.le_trans this (by decide)
theorem repr_ref {pins : List (Addr × Obj)} {s : Shared} {σ : St} {H : Hp} {Q : VK} {a : Addr} {y : PyData} {as : List Addr} (I : Inv X pins σ H s) (hg : X.A.guards = some []) (hu : X.A.units + 100 < cLine) (rd : Reads s.heap (.ref a) y as) (sh : y.showable = true) (hd : y.hasDict = true → sysModules ∉ as)
    (dp : y.depth ≤ 64) (len : y.shown.length ≤ sizeLine) (q : Q (.str y.shown) H) : wpAny (model X.prog X.w) X.A (call (.builtin "repr") [.ref a]) (EP X pins σ Q) X.xe s :=
  PySem.repr_of_reads' (h₀ := s.heap) rd sh hd hg (by omega) (fun _ _ z => z) (fun h' u tk k => ⟨.str _, H, I.kept k, ⟨u, rfl⟩, q⟩) len
theorem call_repr_di (hK : G.K = X.K) (hg : X.A.guards = some []) (hu : X.A.units + 100 < cLine) : CallR X (.builtin "repr") (rON G reprO) := by
  intro pins s σ H xs us Q I r h
  obtain ⟨ds, m, t, ss, rd, k⟩ := h
  unfold reprO at k
  split at k
  · obtain ⟨v, rfl, q⟩ := rd.one
    cases q with
    | dct e q1 =>
      cases q1
      obtain ⟨u, rfl, ru⟩ := vals1 r
      cases ru
      obtain ⟨ob, e⟩ := e
      obtain ⟨_, _, ns, vs, kv, ob2, es, ep, e2, ex, hd, _, pr, _⟩ := I.hok _ _ e
      cases kv
      have hes : es.toList = [] := by
        cases hq : es.toList with
        | nil => rfl
        | cons x xs => rw [hq] at pr; cases pr
      refine repr_ref (y := .dict []) (as := _) I hg hu (Reads.dict (as := []) (bs := []) e2 ex.1 hd ?_ ?_) rfl (fun _ z => ?_) (by decide) shown_empty (KO.now k ss (.str _))
      · rw [hes]; exact .nil
      · rw [hes]; exact .nil
      · rw [List.append_nil, List.mem_singleton] at z
        rw [← z] at ns
        simp at ns
  · rename_i d _
    obtain ⟨v, rfl, q⟩ := rd.one
    cases e : toPy d with
    | none => rw [e] at k; exact k.elim
    | some y =>
      rw [e] at k
      simp only at k
      split at k
      · rename_i c
        obtain ⟨c1, c2, c3⟩ := c
        have nd := shaped_nodict c1
        have dp := RD.dp q e nd
        rw [hK] at dp
        have fin : Q (.str y.shown) H := KO.now k ss (.str _)
        obtain ⟨u, rfl, ru⟩ := vals1 r
        obtain ⟨as, rd2⟩ := Dp.reads I y v u dp ru
        cases rd2 with
        | none => exact PySem.P.repr_of_none ⟨.str _, H, I.tok _, ⟨_, rfl⟩, fin⟩
        | bool b => exact PySem.P.repr_of_bool ⟨.str _, H, I.tok _, ⟨_, rfl⟩, by simpa [PyData.shown] using fin⟩
        | int i tk => exact PySem.P.repr_of_int (by simpa [PyData.showable] using c2) ⟨.str _, H, I.tok _, ⟨_, rfl⟩, by simpa [PyData.shown] using fin⟩
        | str x tk => exact PySem.P.repr_of_str ⟨.str _, H, I.tok _, ⟨_, rfl⟩, by simpa [PyData.shown] using fin⟩ (by simpa [PyData.shown] using lim_le c3)
        | list h1 h2 h3 h4 => exact repr_ref I hg hu (.list h1 h2 h3 h4) c2 (fun z => by rw [nd] at z; cases z) (SeqAt.depth_of_shaped c1) (lim_le c3) fin
        | tuple h1 h2 h3 h4 => exact repr_ref I hg hu (.tuple h1 h2 h3 h4) c2 (fun z => by rw [nd] at z; cases z) (SeqAt.depth_of_shaped c1) (lim_le c3) fin
        | dict h1 h2 h3 h4 h5 => cases dp
      · exact k.elim
  · exact k.elim

/-! ### isinstance -/
/-- the built-in type of a value -/
def tyOf (d : D) (m : Sto) : Option String := match d with
  | .non => some "NoneType"
  | .bl _ => some "bool"
  | .int _ => some "int"
  | .str _ => some "str"
  | .tup _ => some "tuple"
  | .lst _ => some "list"
  | .dct _ => some "dict"
  | .ref l => match m[l]? with
    | some (.lst _) => some "list"
    | some (.dct _) => some "dict"
    | _ => none
  | _ => none
theorem tyOf_x (hK : G.K = X.K) {t : List Addr} {H : Hp} {m : Sto} {d : D} {v : V} {n : String} (ss : SS G t H m) (r : RD G t H d v) (e : tyOf d m = some n) : TyX X.K H v (.type n) := by
  unfold tyOf at e
  split at e
  · cases e; cases r; exact .base .non
  · cases e; cases r; exact .base (.bl _)
  · cases e; cases r; exact .base (.int _)
  · cases e; cases r; exact .base (.str _)
  · cases e
    cases r with
    | tup s1 q1 =>
      rw [hK] at s1
      rcases s1 with (h | ⟨o, h⟩) | ⟨o, its, n, h, c, _⟩
      · exact .base (.tup h)
      · exact .fTuple h
      · exact .kTuple h c
  · cases e
    cases r with
    | lst s1 q1 => obtain ⟨o, h⟩ := s1; exact .base (.frz h)
  · cases e
    cases r with
    | dct s1 q1 => obtain ⟨o, h⟩ := s1; exact .fDict h
  · split at e
    · rename_i hl; cases e
      cases r with
      | ref ha => obtain ⟨vs, hv, _⟩ := ss.lst hl ha; exact .base (.lst hv)
    · rename_i hl; cases e
      cases r with
      | ref ha =>
        obtain ⟨p, e, o⟩ := ss.ob _ _ hl
        rw [ha] at e; cases e
        obtain ⟨kvs, hv, _⟩ := o
        exact .base (.dK hv)
    · cases e
  · cases e
def isiO : ON := fun ds m => match ds with
  | [d, .ty n] => match tyOf d m with
    | some k => (kitB k n).map fun b => (.bl b, m)
    | none => none
  | _ => none
theorem call_isi_di (hK : G.K = X.K) : CallR X (.builtin "isinstance") (rON G isiO) := by
  intro pins s σ H xs us Q I r h
  obtain ⟨ds, m, t, ss, rd, k⟩ := h
  unfold isiO at k
  split at k
  · rename_i d n
    obtain ⟨v, w, rfl, q, q'⟩ := rd.two
    cases q'
    cases e : tyOf d m with
    | none => rw [e] at k; exact k.elim
    | some kk =>
      rw [e] at k
      simp only at k
      cases e2 : kitB kk n with
      | none => rw [e2] at k; exact k.elim
      | some b =>
        rw [e2] at k
        exact call_isi pins s σ H _ us Q I r ⟨_, _, _, _, b, rfl, .ty n, tyOf_x hK ss q e, kit_ty e2, KO.now k ss (.bl _)⟩
  · exact k.elim
end
end DI

set_option Elab.async false
set_option linter.all false
set_option maxRecDepth 100000
set_option maxHeartbeats 4000000
/-! DIF: actions for expressions and their rules. -/
namespace DI
open PySem PySem.Spec L2
open PyProof.Rows hiding St

/-! ### actions -/
def ofO {α : Type} (o : Option (α × Sto)) : R α := match o with
  | some (d, m) => .ok d m
  | none => .stuck
def mVar (i : Nat) : M D := fun r m => match r[i]? with
  | some (some d) => .ok d m
  | _ => .stuck
def mC (d : D) : M D := fun _ m => .ok d m
def mAp1 (f : O1) (a : M D) : M D := fun r m => (a r m).bind fun x m1 => ofO (f x m1)
def mAp2 (f : O2) (a b : M D) : M D := fun r m => (a r m).bind fun x m1 => (b r m1).bind fun y m2 => ofO (f x y m2)
def mNil : M (List D) := fun _ m => .ok [] m
def mCons (a : M D) (b : M (List D)) : M (List D) := fun r m => (a r m).bind fun x m1 => (b r m1).bind fun xs m2 => .ok (x :: xs) m2
def mApN (f : ON) (a : M (List D)) : M D := fun r m => (a r m).bind fun xs m1 => ofO (f xs m1)
def mCall (call : Nat → List D → Sto → R D) (k : Nat) (a : M (List D)) (dfl : List D) : M D := fun r m => (a r m).bind fun xs m1 => call k (xs ++ dfl) m1
def mTru (a : M D) : M Bool := fun r m => (a r m).bind fun x m1 => match truO x m1 with
  | some b => .ok b m1
  | none => .stuck
def mNotT (t : M Bool) : M Bool := fun r m => (t r m).bind fun b m1 => .ok (!b) m1
def mAndT (t u : M Bool) : M Bool := fun r m => (t r m).bind fun b m1 => if b = true then u r m1 else .ok false m1
def mOrT (t u : M Bool) : M Bool := fun r m => (t r m).bind fun b m1 => if b = true then .ok true m1 else u r m1
def mIf {α : Type} (t : M Bool) (a b : M α) : M α := fun r m => (t r m).bind fun c m1 => if c = true then a r m1 else b r m1
def mAndV (a b : M D) : M D := fun r m => (a r m).bind fun x m1 => match truO x m1 with
  | some true => b r m1
  | some false => .ok x m1
  | none => .stuck
def mOrV (a b : M D) : M D := fun r m => (a r m).bind fun x m1 => match truO x m1 with
  | some true => .ok x m1
  | some false => b r m1
  | none => .stuck
def mNotV (a : M D) : M D := fun r m => (a r m).bind fun x m1 => match truO x m1 with
  | some b => .ok (.bl (!b)) m1
  | none => .stuck
/-- a op1 b op2 c -/
def mChain (o1 o2 : CmpOp) (a b c : M D) : M D := fun r m => (a r m).bind fun x m1 => (b r m1).bind fun y m2 => match cmpB o1 x y with
  | some true => (c r m2).bind fun z m3 => ofO (cmpS o2 y z m3)
  | some false => .ok (.bl false) m2
  | none => .stuck
def mNoP : M (Option Int) := fun _ m => .ok none m
def mPart (a : M D) : M (Option Int) := fun r m => (a r m).bind fun x m1 => match x with
  | .int i => .ok (some i) m1
  | _ => .stuck
def mSl (a : M D) (lo hi : M (Option Int)) : M D := fun r m => (a r m).bind fun x m1 => (lo r m1).bind fun l m2 => (hi r m2).bind fun h m3 => ofO (slO x l h m3)
def tupO : ON := fun ds m => if ds.length ≤ lim then some (.tup ds, m) else none
def lstO : ON := fun ds m => if ds.length ≤ lim then some (.lst ds, m) else none
/-- a new mutable list -/
def newL : ON := fun ds m => if ds.length ≤ lim then some (.ref m.length, m ++ [.lst ds]) else none

/-! ### rules -/
section
variable {X : Cx} {G : Gx} {W : WX} {pos : Pos} {a b c : Expr} {ma mb mc : M D}
theorem KE.ofO_ {r : Option (D × Sto)} {s : St} {t : List Addr} {H : Hp} {Q : VK} (h : KE G W s (relD G) (ofO r) t H Q) : KO G r t H Q := by
  cases r with
  | none => exact h
  | some p => exact h
theorem di_var {i : Nat} {x : Str} (hN : X.N[i]? = some x) (hv : Vis X.env.scope x) (hd : (x == ("__debug__" : Str)) = false) (hcd : (x == ("__classdict__" : Str)) = false) : PE X (.Name x pos) (RdE G W (mVar i)) := by
  refine PE.imp (pe_var hN hv hd hcd) fun s H Q h => ?_
  obtain ⟨r, μ, t, se, ss, k⟩ := h
  unfold mVar at k
  split at k
  · rename_i d e
    obtain ⟨v, hv, rd⟩ := se.at_ i d e
    exact ⟨v, hv, k v H t (Stp.refl t H) ss rd⟩
  · exact k.elim
theorem di_c {e : Expr} {d : D} {v : V} (h : PE X e (tC v)) (hd : ∀ t H, RD G t H d v) : PE X e (RdE G W (mC d)) := by
  refine PE.imp h fun s H Q h => ?_
  obtain ⟨r, μ, t, se, ss, k⟩ := h
  exact k v H t (Stp.refl t H) ss (hd t H)
/-- THE STEP: an action that begins with another one -/
theorem rd_step {α β γ δ : Type} {rel : List Addr → Hp → α → β → Prop} {rel2 : List Addr → Hp → γ → δ → Prop} {s : St} {H : Hp} {r : Env} {μ : Sto} {t : List Addr} {m1 : M α} {f : α → Sto → R γ} {Q : δ → Hp → Prop} {Q' : β → Hp → Prop}
    (se : SE G t H r s) (ss : SS G t H μ) (k : KE G W s rel2 ((m1 r μ).bind f) t H Q)
    (h : ∀ a μ' v H1 t1, Stp t H t1 H1 → SE G t1 H1 r s → SS G t1 H1 μ' → rel t1 H1 a v → KE G W s rel2 (f a μ') t1 H1 Q → Q' v H1) : Rd G W rel m1 s H Q' := by
  refine ⟨r, μ, t, se, ss, ?_⟩
  cases e : m1 r μ with
  | ok a μ' =>
    simp only [e, R.bind] at k
    exact fun v H' t' ex s' rl => h a μ' v H' t' ex (se.mono ex.le ex.ex) s' rl (k.later ex)
  | exc kk fs μ' =>
    simp only [e, R.bind] at k
    exact k
  | stuck =>
    simp only [e, R.bind] at k
    exact k
theorem rd_last {α β : Type} {rel : List Addr → Hp → α → β → Prop} {s : St} {H : Hp} {r : Env} {μ : Sto} {t : List Addr} {m1 : M α} {Q : β → Hp → Prop}
    (se : SE G t H r s) (ss : SS G t H μ) (k : KE G W s rel (m1 r μ) t H Q) : Rd G W rel m1 s H Q := ⟨r, μ, t, se, ss, k⟩
theorem KE.ok_ {α β : Type} {rel : List Addr → Hp → α → β → Prop} {s : St} {H : Hp} {t : List Addr} {x : α} {m : Sto} {v : β} {Q : β → Hp → Prop} (k : KE G W s rel (.ok x m) t H Q) (ss : SS G t H m) (r : rel t H x v) : Q v H :=
  k v H t (Stp.refl t H) ss r
theorem di_ap2 {e : Expr} {f : O2} (h : PE X e (tOp (rO2 G f) (RdE G W ma) (RdE G W mb))) : PE X e (RdE G W (mAp2 f ma mb)) := by
  refine PE.imp h fun s H Q ⟨r, μ, t, se, ss, k⟩ => ?_
  exact rd_step se ss k fun d1 μ1 x H1 t1 _ se1 ss1 r1 k1 => rd_step se1 ss1 k1 fun d2 μ2 y H2 t2 ex2 _ ss2 r2 k2 => ⟨d1, d2, μ2, t2, ss2, RD.mono ex2.le ex2.ex r1, r2, KE.ofO_ k2⟩
theorem di_ap1 {e : Expr} {f : O1} (h : PE X e (tUn (rO1 G f) (RdE G W ma))) : PE X e (RdE G W (mAp1 f ma)) := by
  refine PE.imp h fun s H Q ⟨r, μ, t, se, ss, k⟩ => ?_
  exact rd_step se ss k fun d1 μ1 x H1 t1 _ _ ss1 r1 k1 => ⟨d1, μ1, t1, ss1, r1, KE.ofO_ k1⟩
theorem di_bin (hK : G.K = X.K) {op : Operator} (ha : PE X a (RdE G W ma)) (hb : PE X b (RdE G W mb)) : PE X (.BinOp a op b pos) (RdE G W (mAp2 (binS op) ma mb)) := di_ap2 (pe_op (op_bin hK op) ha hb)
theorem di_un {op : UnaryOp} (ha : PE X a (RdE G W ma)) : PE X (.UnaryOp op a pos) (RdE G W (mAp1 (unS op) ma)) := di_ap1 (pe_un (un_di op) ha)
theorem di_ix (hK : G.K = X.K) (ha : PE X a (RdE G W ma)) (hb : PE X b (RdE G W mb)) (hs : PlainIx b) : PE X (.Subscript a b pos) (RdE G W (mAp2 ixO ma mb)) := di_ap2 (pe_ix (ix_di hK) ha hb hs)
theorem marks_ok {op : CmpOp} (hb : ∀ es k p, b ≠ .Set es k p) : behindInMarks op b = false := by
  cases b <;> first | rfl | (exact absurd rfl (hb _ _ _))
theorem di_cmp (hK : G.K = X.K) (hu : X.A.units + 64 < cLine) {op : CmpOp} (ha : PE X a (RdE G W ma)) (hb : PE X b (RdE G W mb)) (hm : behindInMarks op b = false) : PE X (.Compare a [op] [b] pos) (RdE G W (mAp2 (cmpS op) ma mb)) := di_ap2 (pe_cmpR (op_cmp hK hu op) ha hb hm)
theorem cmpS_bl {op : CmpOp} {x y : D} {m m1 : Sto} {d : D} (h : cmpS op x y m = some (d, m1)) : ∃ b, cmpB op x y = some b ∧ d = .bl b ∧ m1 = m := by
  unfold cmpS at h
  obtain ⟨b, e, q⟩ := Option.map_eq_some_iff.mp h
  cases q
  exact ⟨b, e, rfl, rfl⟩
theorem KE.bind_ofO {α γ δ : Type} {rel2 : List Addr → Hp → γ → δ → Prop} {s : St} {t : List Addr} {H : Hp} {o : Option (α × Sto)} {f : α → Sto → R γ} {Q : δ → Hp → Prop} (k : KE G W s rel2 ((ofO o).bind f) t H Q) : ∃ d m, o = some (d, m) ∧ KE G W s rel2 (f d m) t H Q := by
  cases o with
  | none => exact k.elim
  | some p => exact ⟨p.1, p.2, rfl, k⟩
/-- what a comparison tells, as a test -/
def mCmpT (op : CmpOp) (a b : M D) : M Bool := fun r m => (a r m).bind fun x m1 => (b r m1).bind fun y m2 => match cmpB op x y with
  | some k => .ok k m2
  | none => .stuck
theorem di_cmpT (hK : G.K = X.K) (hu : X.A.units + 64 < cLine) {op : CmpOp} (ha : PE X a (RdE G W ma)) (hb : PE X b (RdE G W mb)) (hm : behindInMarks op b = false) : PT X (.Compare a [op] [b] pos) (RdT G W (mCmpT op ma mb)) := by
  refine PT.imp (pt_cmpR (op_cmp hK hu op) ha hb hm) fun s H Q ⟨r, μ, t, se, ss, k⟩ => ?_
  refine rd_step se ss k fun d1 μ1 x H1 t1 _ se1 ss1 r1 k1 => rd_step se1 ss1 k1 fun d2 μ2 y H2 t2 ex2 _ ss2 r2 k2 => ⟨d1, d2, μ2, t2, ss2, RD.mono ex2.le ex2.ex r1, r2, ?_⟩
  unfold cmpS
  cases e : cmpB op d1 d2 with
  | none => rw [e] at k2; exact k2.elim
  | some b =>
    rw [e] at k2
    intro v H' t' ex ss' rd
    cases rd
    exact ⟨b, rfl, k2 b H' t' ex ss' rfl⟩
theorem di_tru (hK : G.K = X.K) (ha : PE X a (RdE G W ma)) (he : ∀ whole, isTrue a X.env whole = (do let v ← whole; standAt a.pos; holding [v] (truthy v))) : PT X a (RdT G W (mTru ma)) := by
  refine PT.imp (pt_truth ha he) fun s H Q ⟨r, μ, t, se, ss, k⟩ => ?_
  refine rd_step se ss k fun d1 μ1 x H1 t1 _ se1 ss1 r1 k1 => ?_
  cases e : truO d1 μ1 with
  | none => rw [e] at k1; exact k1.elim
  | some b =>
    rw [e] at k1
    exact ⟨b, truV_di hK ss1 r1 e, KE.ok_ k1 ss1 rfl⟩
theorem di_notT {t : M Bool} (h : PT X a (RdT G W t)) : PT X (.UnaryOp .Not a pos) (RdT G W (mNotT t)) := by
  refine PT.imp (pt_not h) fun s H Q ⟨r, μ, t, se, ss, k⟩ => ?_
  exact rd_step se ss k fun b μ1 x H1 t1 _ se1 ss1 r1 k1 => by cases r1; exact KE.ok_ k1 ss1 rfl
theorem di_and1 {t : M Bool} (h : PT X a (RdT G W t)) : PW X (.BoolOp .And [a] pos) (RdT G W t) := pw_and1 h
theorem di_or1 {t : M Bool} (h : PT X a (RdT G W t)) : PW X (.BoolOp .Or [a] pos) (RdT G W t) := pw_or1 h
theorem di_andT {t u : M Bool} {rest : List Expr} (h : PT X a (RdT G W t)) (h2 : PW X (.BoolOp .And (b :: rest) pos) (RdT G W u)) : PW X (.BoolOp .And (a :: b :: rest) pos) (RdT G W (mAndT t u)) := by
  refine PW.imp (pw_and h h2) fun s H Q ⟨r, μ, t, se, ss, k⟩ => ?_
  refine rd_step se ss k fun b μ1 x H1 t1 _ se1 ss1 r1 k1 => ?_
  cases r1
  cases b with
  | true => exact rd_last se1 ss1 k1
  | false => exact KE.ok_ k1 ss1 rfl
theorem di_orT {t u : M Bool} {rest : List Expr} (h : PT X a (RdT G W t)) (h2 : PW X (.BoolOp .Or (b :: rest) pos) (RdT G W u)) : PW X (.BoolOp .Or (a :: b :: rest) pos) (RdT G W (mOrT t u)) := by
  refine PW.imp (pw_or h h2) fun s H Q ⟨r, μ, t, se, ss, k⟩ => ?_
  refine rd_step se ss k fun b μ1 x H1 t1 _ se1 ss1 r1 k1 => ?_
  cases r1
  cases b with
  | true => exact KE.ok_ k1 ss1 rfl
  | false => exact rd_last se1 ss1 k1
theorem di_one {op : BoolOp} (h : PE X a (RdE G W ma)) : PE X (.BoolOp op [a] pos) (RdE G W ma) := pe_one h
theorem di_andV (hK : G.K = X.K) {rest : List Expr} (h : PE X a (RdE G W ma)) (h2 : PE X (.BoolOp .And (b :: rest) pos) (RdE G W mb)) : PE X (.BoolOp .And (a :: b :: rest) pos) (RdE G W (mAndV ma mb)) := by
  refine PE.imp (pe_andT h h2) fun s H Q ⟨r, μ, t, se, ss, k⟩ => ?_
  refine rd_step se ss k fun d μ1 x H1 t1 _ se1 ss1 r1 k1 => ?_
  cases e : truO d μ1 with
  | none => rw [e] at k1; exact k1.elim
  | some c =>
    rw [e] at k1
    refine ⟨c, truV_di hK ss1 r1 e, ?_⟩
    cases c with
    | true => exact rd_last se1 ss1 k1
    | false => exact KE.ok_ k1 ss1 r1
theorem di_orV (hK : G.K = X.K) {rest : List Expr} (h : PE X a (RdE G W ma)) (h2 : PE X (.BoolOp .Or (b :: rest) pos) (RdE G W mb)) : PE X (.BoolOp .Or (a :: b :: rest) pos) (RdE G W (mOrV ma mb)) := by
  refine PE.imp (pe_orT h h2) fun s H Q ⟨r, μ, t, se, ss, k⟩ => ?_
  refine rd_step se ss k fun d μ1 x H1 t1 _ se1 ss1 r1 k1 => ?_
  cases e : truO d μ1 with
  | none => rw [e] at k1; exact k1.elim
  | some c =>
    rw [e] at k1
    refine ⟨c, truV_di hK ss1 r1 e, ?_⟩
    cases c with
    | true => exact KE.ok_ k1 ss1 r1
    | false => exact rd_last se1 ss1 k1
theorem di_notV (hK : G.K = X.K) (h : PE X a (RdE G W ma)) : PE X (.UnaryOp .Not a pos) (RdE G W (mNotV ma)) := by
  refine PE.imp (pe_notT h) fun s H Q ⟨r, μ, t, se, ss, k⟩ => ?_
  refine rd_step se ss k fun d μ1 x H1 t1 _ se1 ss1 r1 k1 => ?_
  cases e : truO d μ1 with
  | none => rw [e] at k1; exact k1.elim
  | some c => rw [e] at k1; exact ⟨c, truV_di hK ss1 r1 e, KE.ok_ k1 ss1 (.bl _)⟩
theorem di_if {tt : M Bool} (h : PT X c (RdT G W tt)) (ha : PE X a (RdE G W ma)) (hb : PE X b (RdE G W mb)) : PE X (.IfExp c a b pos) (RdE G W (mIf tt ma mb)) := by
  refine PE.imp (pe_ifExp h ha hb) fun s H Q ⟨r, μ, t, se, ss, k⟩ => ?_
  refine rd_step se ss k fun d μ1 x H1 t1 _ se1 ss1 r1 k1 => ?_
  cases r1
  cases d with
  | true => exact rd_last se1 ss1 k1
  | false => exact rd_last se1 ss1 k1
theorem di_chain (hK : G.K = X.K) (hu : X.A.units + 64 < cLine) {o1 o2 : CmpOp} (ha : PE X a (RdE G W ma)) (hb : PE X b (RdE G W mb)) (hc : PE X c (RdE G W mc)) (hm : lastMarks [o1, o2] [b, c] = false) : PE X (.Compare a [o1, o2] [b, c] pos) (RdE G W (mChain o1 o2 ma mb mc)) := by
  refine PE.imp (pe_chain (op_cmp hK hu o1) (op_cmp hK hu o2) ha hb hc hm) fun s H Q ⟨r, μ, t, se, ss, k⟩ => ?_
  refine rd_step se ss k fun d1 μ1 x H1 t1 _ se1 ss1 r1 k1 => rd_step se1 ss1 k1 fun d2 μ2 y H2 t2 ex2 se2 ss2 r2 k2 => ⟨d1, d2, μ2, t2, ss2, RD.mono ex2.le ex2.ex r1, r2, ?_⟩
  unfold cmpS
  cases e : cmpB o1 d1 d2 with
  | none => rw [e] at k2; exact k2.elim
  | some bb =>
    rw [e] at k2
    intro v H3 t3 ex3 ss3 rd3
    cases rd3
    refine ⟨bb, rfl, ?_⟩
    cases bb with
    | true =>
      exact rd_step (se2.mono ex3.le ex3.ex) ss3 (k2.later ex3) fun d3 μ3 z H4 t4 ex4 se4 ss4 r4 k4 => ⟨d2, d3, μ3, t4, ss4, RD.mono (ex3.trans ex4).le (ex3.trans ex4).ex r2, r4, KE.ofO_ k4⟩
    | false => exact KE.ok_ (k2.later ex3) ss3 (.bl _)
/-! parts of slices -/
theorem di_nop : PO X none (Rd G W (fun _ _ (o p : Option Int) => p = o) mNoP) := ⟨fun pins s σ H Q I h => po_none.run pins s σ H Q I (by
  obtain ⟨r, μ, t, se, ss, k⟩ := h
  exact KE.ok_ k ss rfl)⟩
theorem di_part (ha : PE X a (RdE G W ma)) : PO X (some a) (Rd G W (fun _ _ (o p : Option Int) => p = o) (mPart ma)) := ⟨fun pins s σ H Q I h => (po_some ha).run pins s σ H Q I (by
  obtain ⟨r, μ, t, se, ss, k⟩ := h
  refine rd_step se ss k fun d μ1 x H1 t1 _ se1 ss1 r1 k1 => ?_
  cases d with
  | int i => cases r1; exact ⟨i, rfl, KE.ok_ k1 ss1 rfl⟩
  | _ => exact k1.elim)⟩
theorem di_sl (hK : G.K = X.K) {p2 : Pos} {lo hi : Option Expr} {ml mh : M (Option Int)} (ha : PE X a (RdE G W ma)) (hl : PO X lo (Rd G W (fun _ _ (o p : Option Int) => p = o) ml)) (hh : PO X hi (Rd G W (fun _ _ (o p : Option Int) => p = o) mh)) :
    PE X (.Subscript a (.Slice lo hi none p2) pos) (RdE G W (mSl ma ml mh)) := by
  refine PE.imp (pe_slice (sl_di hK) ha hl hh) fun s H Q ⟨r, μ, t, se, ss, k⟩ => ?_
  refine rd_step se ss k fun d μ1 x H1 t1 _ se1 ss1 r1 k1 => rd_step se1 ss1 k1 fun l μ2 l' H2 t2 ex2 se2 ss2 r2 k2 => rd_step se2 ss2 k2 fun u μ3 u' H3 t3 ex3 se3 ss3 r3 k3 => ?_
  cases r2; cases r3
  exact ⟨d, μ3, t3, ss3, RD.mono (ex2.trans ex3).le (ex2.trans ex3).ex r1, KE.ofO_ k3⟩
/-! lists of arguments, displays, calls of built-ins -/
theorem di_nil : PA X [] (RdA G W mNil) := PA.imp pa_nil fun s H Q ⟨r, μ, t, se, ss, k⟩ => KE.ok_ k ss .nil
theorem di_cons {es : List Expr} {ms : M (List D)} (ha : PE X a (RdE G W ma)) (hr : PA X es (RdA G W ms)) (hs : starEach (a :: es) X.env = (false, eval a X.env) :: starEach es X.env) : PA X (a :: es) (RdA G W (mCons ma ms)) := by
  refine PA.imp (pa_cons ha hr hs) fun s H Q ⟨r, μ, t, se, ss, k⟩ => ?_
  exact rd_step se ss k fun d μ1 x H1 t1 _ se1 ss1 r1 k1 => rd_step se1 ss1 k1 fun ds μ2 xs H2 t2 ex2 _ ss2 r2 k2 => KE.ok_ k2 ss2 (.cons (RD.mono ex2.le ex2.ex r1) r2)
theorem di_tup {es : List Expr} {x1} {ms : M (List D)} (h : PA X es (RdA G W ms)) : PE X (.Tuple es x1 pos) (RdE G W (mApN tupO ms)) := by
  refine PE.imp (pe_tup h) fun s H Q ⟨r, μ, t, se, ss, k⟩ => ?_
  refine rd_step se ss k fun ds μ1 xs H1 t1 _ se1 ss1 r1 k1 => ?_
  have k2 := KE.ofO_ k1
  unfold tupO at k2
  split at k2
  · rename_i c
    exact ⟨by rw [← RDs.length r1]; exact lim_le c, fun p hp => KO.tup k2 ss1 r1 hp⟩
  · exact k2.elim
theorem di_lst {es : List Expr} {ms : M (List D)} (h : PA X es (RdA G W ms)) : PE X (.List es pos) (RdE G W (mApN lstO ms)) := by
  refine PE.imp (pe_frz (pe_lst h)) fun s H Q ⟨r, μ, t, se, ss, k⟩ => ?_
  refine rd_step se ss k fun ds μ1 xs H1 t1 _ se1 ss1 r1 k1 => ?_
  have k2 := KE.ofO_ k1
  unfold lstO at k2
  split at k2
  · rename_i c
    exact ⟨by rw [← RDs.length r1]; exact lim_le c, fun p hp => KO.lst k2 ss1 r1 hp⟩
  · exact k2.elim
theorem SS.grow {t : List Addr} {H : Hp} {m : Sto} {p : Addr} {ds : List D} {vs : List V} (ss : SS G t H m) (r : RDs G t H ds vs) (hp : H p = none) : SS G (t ++ [p]) (upd H p (.lst vs)) (m ++ [.lst ds]) := by
  have ex : Ext H (upd H p (.lst vs)) := Ext.new hp
  have le : Le t (t ++ [p]) := Le.app t [p]
  have known : ∀ (l : Nat) (o : O) (a : Addr), m[l]? = some o → o ≠ .dead → t[l]? = some a → a ≠ p := fun l o a h1 h2 h3 z => by
    obtain ⟨q, e, ob⟩ := ss.ob l o h1
    rw [h3] at e; cases e
    subst z
    cases o with
    | lst ds => obtain ⟨vs, e, _⟩ := ob; rw [hp] at e; cases e
    | ins c fs => obtain ⟨C, dx, vs, _, e, _⟩ := ob; rw [hp] at e; cases e
    | dct kds => obtain ⟨vs, e, _⟩ := ob; rw [hp] at e; cases e
    | dead => exact h2 rfl
  have at_ : ∀ (l : Nat) (o : O), (m ++ [O.lst ds])[l]? = some o → (l < m.length ∧ m[l]? = some o) ∨ (l = m.length ∧ o = .lst ds) := fun l o h => by
    by_cases hl : l < m.length
    · rw [List.getElem?_append_left hl] at h
      exact .inl ⟨hl, h⟩
    · rw [List.getElem?_append_right (by omega)] at h
      have : l - m.length = 0 := by
        have := (List.getElem?_eq_some_iff.mp h).1
        simp at this; omega
      rw [this] at h
      simp at h
      exact .inr ⟨by omega, h.symm⟩
  have ta : ∀ (l : Nat), l < m.length → (t ++ [p])[l]? = t[l]? := fun l hl => List.getElem?_append_left (by rw [ss.len]; exact hl)
  have tl : (t ++ [p])[m.length]? = some p := by rw [List.getElem?_append_right (by rw [ss.len]; exact Nat.le_refl _), ss.len]; simp
  refine ⟨by simp [ss.len], fun l o h => ?_, fun a q => ?_, fun l l' o o' q h1 h2 n1 n2 h3 h4 => ?_⟩
  · rcases at_ l o h with ⟨hl, h⟩ | ⟨rfl, rfl⟩
    · obtain ⟨a, e, ob⟩ := ss.ob l o h
      exact ⟨a, by rw [ta l hl]; exact e, ob.mono le ex fun u hu _ => by rw [upd_ne (ne_of_none hu hp)]; exact hu⟩
    · exact ⟨p, tl, vs, upd_same, r.mono le ex⟩
  · rcases List.mem_append.mp q with z | z
    · obtain ⟨u, e⟩ := ss.kn a z
      exact ⟨u, by rw [upd_ne (ne_of_none e hp)]; exact e⟩
    · rw [List.mem_singleton] at z
      subst z
      exact ⟨_, upd_same⟩
  · rcases at_ l o h1 with ⟨hl, h1⟩ | ⟨rfl, rfl⟩
    · rcases at_ l' o' h2 with ⟨hl', h2⟩ | ⟨rfl, rfl⟩
      · rw [ta l hl] at h3; rw [ta l' hl'] at h4
        exact ss.inj l l' o o' q h1 h2 n1 n2 h3 h4
      · rw [ta l hl] at h3; rw [tl] at h4; cases h4
        exact absurd rfl (known l o p h1 n1 h3)
    · rcases at_ l' o' h2 with ⟨hl', h2⟩ | ⟨rfl, rfl⟩
      · rw [ta l' hl'] at h4; rw [tl] at h3; cases h3
        exact absurd rfl (known l' o' p h2 n2 h4)
      · rfl
theorem di_newL {es : List Expr} {ms : M (List D)} (h : PA X es (RdA G W ms)) : PE X (.List es pos) (RdE G W (mApN newL ms)) := by
  refine PE.imp (pe_lst h) fun s H Q ⟨r, μ, t, se, ss, k⟩ => ?_
  refine rd_step se ss k fun ds μ1 xs H1 t1 _ se1 ss1 r1 k1 => ?_
  have k2 := KE.ofO_ k1
  unfold newL at k2
  split at k2
  · rename_i c
    refine ⟨by rw [← RDs.length r1]; exact lim_le c, fun p hp => ?_⟩
    refine k2 _ _ (t1 ++ [p]) (Stp.grow hp) (ss1.grow r1 hp) (.ref ?_)
    rw [← ss1.len]; simp
  · exact k2.elim
theorem di_callB {id : String} {x : Str} {p : Pos} {es : List Expr} {f : ON} {ms : M (List D)} (hc : CallR X (.builtin id) (rON G f)) (hg : Gl X x) (hm : X.mg x = none) (hv : bootBuiltins x = some (.builtin id)) (ha : PA X (a :: es) (RdA G W ms)) (hn : x ≠ "__name__") (hdb : (x == ("__debug__" : Str)) = false)
    (he : starEach (a :: es) X.env = (false, eval a X.env) :: starEach es X.env) (hpl : (backTo pos (starEach es X.env)).any (·.1) = false) : PE X (.Call (.Name x p) (a :: es) [] pos) (RdE G W (mApN f ms)) := by
  refine PE.imp (pe_callB hc hg hm hv ha hn hdb he hpl) fun s H Q ⟨r, μ, t, se, ss, k⟩ => ?_
  exact rd_step se ss k fun ds μ1 xs H1 t1 _ se1 ss1 r1 k1 => ⟨ds, μ1, t1, ss1, r1, KE.ofO_ k1⟩
theorem di_callTy {id : String} {x : Str} {p : Pos} {es : List Expr} {f : ON} {ms : M (List D)} (hc : CallR X (.type id) (rON G f)) (hg : Gl X x) (hm : X.mg x = none) (hv : bootBuiltins x = some (.type id)) (ha : PA X (a :: es) (RdA G W ms)) (hn : x ≠ "__name__") (hdb : (x == ("__debug__" : Str)) = false)
    (he : starEach (a :: es) X.env = (false, eval a X.env) :: starEach es X.env) (hpl : (backTo pos (starEach es X.env)).any (·.1) = false) : PE X (.Call (.Name x p) (a :: es) [] pos) (RdE G W (mApN f ms)) := by
  refine PE.imp (pe_callTy hc hg hm hv ha hn hdb he hpl) fun s H Q ⟨r, μ, t, se, ss, k⟩ => ?_
  exact rd_step se ss k fun ds μ1 xs H1 t1 _ se1 ss1 r1 k1 => ⟨ds, μ1, t1, ss1, r1, KE.ofO_ k1⟩
end
end DI

set_option Elab.async false
set_option linter.all false
set_option maxRecDepth 100000
set_option maxHeartbeats 4000000
/-! DIG: targets, walked things, statements: actions and rules. -/
namespace DI
open PySem PySem.Spec L2
open PyProof.Rows hiding St

/-! ### targets -/
inductive P where
  | nm (i : Nat) | tp (ps : List P)
mutual
def bindP : P → D → Env → Option Env
  | .nm i, d, r => some (r.set i (some d))
  | .tp ps, d, r => match d with
    | .tup ds => bindPs ps ds r
    | _ => none
def bindPs : List P → List D → Env → Option Env
  | [], [], r => some r
  | p :: ps, d :: ds, r => (bindP p d r).bind fun r1 => bindPs ps ds r1
  | _, _, _ => none
end
mutual
def slotsP : P → List Nat
  | .nm i => [i]
  | .tp ps => slotsPs ps
def slotsPs : List P → List Nat
  | [] => []
  | p :: ps => slotsP p ++ slotsPs ps
end
/-- names outside of the target stay -/
def But (l : List Nat) (s s' : St) : Prop := s'.length = s.length ∧ ∀ i, i ∉ l → s'[i]? = s[i]?
def RdG (G : Gx) (p : P) : TG := fun v s H Q => ∃ d r t r', SE G t H r s ∧ RD G t H d v ∧ bindP p d r = some r' ∧ ∀ s', SE G t H r' s' → But (slotsP p) s s' → Q s' H
def RdGs (G : Gx) (ps : List P) : TGs := fun vs s H Q => ∃ ds r t r', SE G t H r s ∧ RDs G t H ds vs ∧ bindPs ps ds r = some r' ∧ ∀ s', SE G t H r' s' → But (slotsPs ps) s s' → Q s' H
section
variable {X : Cx} {G : Gx} {W : WX} {pos : Pos}
theorem PG.imp {e : Expr} {g g' : TG} (h : PG X e g) (i : ∀ v s H Q, g' v s H Q → g v s H Q) : PG X e g' := ⟨fun pins s σ H v u Q I r q => h.run pins s σ H v u Q I r (i _ _ _ _ q)⟩
theorem PGs.imp {e : List Expr} {g g' : TGs} (h : PGs X e g) (i : ∀ v s H Q, g' v s H Q → g v s H Q) : PGs X e g' := ⟨fun pins s σ H v u Q I r q => h.run pins s σ H v u Q I r (i _ _ _ _ q)⟩
theorem SE.set {t : List Addr} {H : Hp} {r : Env} {s : St} {i : Nat} {d : D} {v : V} (se : SE G t H r s) (rd : RD G t H d v) : SE G t H (r.set i (some d)) (s.set i (some v)) := by
  refine ⟨by rw [List.length_set, List.length_set]; exact se.len, fun j e h => ?_⟩
  by_cases hj : i = j
  · subst hj
    have hl : i < r.length := by
      have := (List.getElem?_eq_some_iff.mp h).1
      rw [List.length_set] at this; exact this
    rw [List.getElem?_set_self hl] at h
    cases h
    exact ⟨v, by rw [List.getElem?_set_self (by rw [← se.len]; exact hl)], rd⟩
  · rw [List.getElem?_set_ne hj] at h ⊢
    exact se.at_ j e h
theorem di_gn {i : Nat} {x : Str} (hN : X.N.Nodup) (hi : X.N[i]? = some x) (hx : Loc X.env.scope x) (hf : X.fn x = true ∨ X.env.scope.names.lookup x = some .local) : PG X (.Name x pos) (RdG G (.nm i)) :=
  PG.imp (pg_name hN hi hx hf) fun v s H Q ⟨d, r, t, r', se, rd, e, q⟩ => by
    simp only [bindP, Option.some.injEq] at e
    subst e
    exact q _ (se.set rd) ⟨List.length_set, fun j hj => List.getElem?_set_ne (fun z => hj (by simp [slotsP, z]))⟩
theorem di_gnil : PGs X [] (RdGs G []) := PGs.imp pgs_nil fun vs s H Q ⟨ds, r, t, r', se, rd, e, q⟩ => by
  cases rd with
  | nil =>
    simp only [bindPs, Option.some.injEq] at e
    subst e
    exact ⟨rfl, q _ se ⟨rfl, fun _ _ => rfl⟩⟩
  | cons a b => simp [bindPs] at e
theorem di_gcons {e : Expr} {es : List Expr} {p : P} {ps : List P} (h1 : PG X e (RdG G p)) (h2 : PGs X es (RdGs G ps)) (hs : (assignEach (e :: es) X.env).map (·.2) = assign e X.env :: (assignEach es X.env).map (·.2)) : PGs X (e :: es) (RdGs G (p :: ps)) :=
  PGs.imp (pgs_cons h1 h2 hs) fun vs s H Q ⟨ds, r, t, r', se, rd, ee, q⟩ => by
    cases rd with
    | nil => simp [bindPs] at ee
    | cons a b =>
      simp only [bindPs, Option.bind_eq_some_iff] at ee
      obtain ⟨r1, e1, e2⟩ := ee
      exact ⟨_, _, rfl, _, r, t, r1, se, a, e1, fun s' se' b1 => ⟨_, r1, t, r', se', b, e2, fun s2 se2 b2 => q s2 se2 ⟨b2.1.trans b1.1, fun i hi => by
        simp only [slotsPs, List.mem_append, not_or] at hi
        exact (b2.2 i hi.2).trans (b1.2 i hi.1)⟩⟩⟩
theorem bindPs_len : ∀ {ps : List P} {ds : List D} {r r' : Env}, bindPs ps ds r = some r' → ps.length = ds.length
  | [], [], _, _, _ => rfl
  | [], _ :: _, _, _, h => by simp [bindPs] at h
  | _ :: _, [], _, _, h => by simp [bindPs] at h
  | p :: ps, d :: ds, r, r', h => by
    simp only [bindPs, Option.bind_eq_some_iff] at h
    obtain ⟨r1, _, e2⟩ := h
    rw [List.length_cons, List.length_cons, bindPs_len e2]
theorem di_gtup (hK : G.K = X.K) (hc : X.calm = true) {es : List Expr} {k : Nat} {ps : List P} (h : PGs X es (RdGs G ps)) (hn : (assignEach es X.env).length = ps.length) (hst : (assignEach es X.env).findIdx? (·.1) = none) : PG X (.Tuple es k pos) (RdG G (.tp ps)) :=
  PG.imp (pg_tup hc h hn hst) fun v s H Q ⟨d, r, t, r', se, rd, e, q⟩ => by
    simp only [bindP] at e
    split at e
    · cases rd with
      | tup s1 q1 => rw [hK] at s1; exact ⟨_, _, rfl, s1, by rw [← q1.length, bindPs_len e], _, r, t, r', se, q1, e, q⟩
    · cases e
end

/-! ### walked things -/
structure ItD where
  items : List D
  live : Option Nat
def Live (it : ItD) (m : Sto) : Prop := match it.live with
  | none => True
  | some l => m[l]? = some (.lst it.items)
def IterOf (G : Gx) (t1 : List Addr) (H1 : Hp) (it : ItD) (J : It) : Prop := ∀ (i : Nat) (H : Hp) (t : List Addr) (m : Sto), Stp t1 H1 t H → SS G t H m → Live it m →
  (it.items.length ≤ i → J.stop i H) ∧ ∀ d, it.items[i]? = some d → J.go i H ∧ ∀ x H', J.yld i H x H' → Stp t H t H' ∧ SS G t H' m ∧ RD G t H' d x
abbrev relI (G : Gx) : List Addr → Hp → ItD → It → Prop := fun t H it J => IterOf G t H it J
abbrev RdI (G : Gx) (W : WX) (m : M ItD) : TI := Rd G W (relI G) m
/-- a value that is walked -/
def itV (d : D) (m : Sto) : Option ItD := match d with
  | .lst xs => some ⟨xs, none⟩
  | .tup xs => some ⟨xs, none⟩
  | .ref l => match m[l]? with
    | some (.lst xs) => some ⟨xs, some l⟩
    | _ => none
  | _ => none
def mItV (a : M D) : M ItD := fun r m => (a r m).bind fun d m1 => match itV d m1 with
  | some it => .ok it m1
  | none => .stuck
def intRange (lo : Int) (n : Nat) : List D := (List.range n).map fun i => .int (lo + (i : Nat))
def rngI (ds : List D) : Option ItD := match ds with
  | [.int j] => if -(2 ^ 62) ≤ j ∧ j < 2 ^ 62 then some ⟨intRange 0 j.toNat, none⟩ else none
  | [.int i, .int j] => if -(2 ^ 62) ≤ i ∧ i < 2 ^ 62 ∧ -(2 ^ 62) ≤ j ∧ j < 2 ^ 62 then some ⟨intRange i (j - i).toNat, none⟩ else none
  | _ => none
def mItR (a : M (List D)) : M ItD := fun r m => (a r m).bind fun ds m1 => match rngI ds with
  | some it => .ok it m1
  | none => .stuck
section
variable {X : Cx} {G : Gx} {W : WX} {pos : Pos} {tg : Expr}
theorem PI.imp {e : Expr} {w w' : TI} (h : PI X tg e w) (i : ∀ s H Q, w' s H Q → w s H Q) : PI X tg e w' := ⟨fun pins s σ H R I q => h.run pins s σ H R I (i _ _ _ q)⟩
theorem PI.or {e : Expr} {w w' : TI} (h : PI X tg e w) (h' : PI X tg e w') : PI X tg e (fun s H Q => w s H Q ∨ w' s H Q) := ⟨fun pins s σ H R I q => q.elim (fun z => h.run pins s σ H R I z) fun z => h'.run pins s σ H R I z⟩
theorem di_itV (hK : G.K = X.K) {e : Expr} {me : M D} (he : PE X e (RdE G W me)) : PI X tg e (RdI G W (mItV me)) := by
  refine PI.imp (PI.or (pi_list he) (pi_tup he)) fun s H Q ⟨r, μ, t, se, ss, k⟩ => ?_
  unfold mItV at k
  cases e1 : me r μ with
  | stuck => rw [e1] at k; exact k.elim
  | exc kk fs m =>
    rw [e1] at k
    exact .inl ⟨r, μ, t, se, ss, by rw [e1]; exact k⟩
  | ok d m1 =>
    rw [e1] at k
    simp only [R.bind] at k
    cases e2 : itV d m1 with
    | none => rw [e2] at k; exact k.elim
    | some it =>
      rw [e2] at k
      unfold itV at e2
      split at e2
      · cases e2
        refine .inl ⟨r, μ, t, se, ss, ?_⟩
        rw [e1]
        intro v H1 t1 ex ss1 rd
        cases rd with
        | lst s1 q1 =>
          refine ⟨_, rfl, ⟨_, s1.l⟩, k _ H1 t1 ex ss1 fun i H2 t2 m2 ex2 ss2 _ => ⟨fun hi => ⟨_, (sqF_of ex2.ex s1).l, by rw [← q1.length]; exact hi⟩, fun d hd => ?_⟩⟩
          obtain ⟨x, hx, rx⟩ := q1.get hd
          refine ⟨⟨_, x, (sqF_of ex2.ex s1).l, hx⟩, fun y H' yl => ?_⟩
          obtain ⟨rfl, yl⟩ := yl
          have hy := yl _ (sqF_of ex2.ex s1).l
          rw [hx] at hy; cases hy
          exact ⟨Stp.refl _ _, ss2, rx.mono ex2.le ex2.ex⟩
      · cases e2
        refine .inr ⟨r, μ, t, se, ss, ?_⟩
        rw [e1]
        intro v H1 t1 ex ss1 rd
        cases rd with
        | tup s1 q1 =>
          rw [hK] at s1
          refine ⟨_, rfl, ⟨_, s1⟩, k _ H1 t1 ex ss1 fun i H2 t2 m2 ex2 ss2 _ => ⟨fun hi => ⟨_, rd_of ex2.ex s1, by rw [← q1.length]; exact hi⟩, fun d hd => ?_⟩⟩
          obtain ⟨x, hx, rx⟩ := q1.get hd
          refine ⟨⟨_, x, rd_of ex2.ex s1, hx⟩, fun y H' yl => ?_⟩
          obtain ⟨rfl, yl⟩ := yl
          have hy := yl _ (rd_of ex2.ex s1)
          rw [hx] at hy; cases hy
          exact ⟨Stp.refl _ _, ss2, rx.mono ex2.le ex2.ex⟩
      · split at e2
        · rename_i hl
          cases e2
          refine .inl ⟨r, μ, t, se, ss, ?_⟩
          rw [e1]
          intro v H1 t1 ex ss1 rd
          cases rd with
          | ref ha =>
            obtain ⟨vs, hv, q1⟩ := ss1.lst hl ha
            refine ⟨_, rfl, ⟨_, .inl (.inl hv)⟩, k _ H1 t1 ex ss1 fun i H2 t2 m2 ex2 ss2 lv => ?_⟩
            simp only [Live] at lv
            obtain ⟨us, hu, q2⟩ := ss2.lst lv (ex2.le _ _ ha)
            refine ⟨fun hi => ⟨us, .inl (.inl hu), by rw [← q2.length]; exact hi⟩, fun d hd => ?_⟩
            obtain ⟨x, hx, rx⟩ := q2.get hd
            refine ⟨⟨us, x, .inl (.inl hu), hx⟩, fun y H' yl => ?_⟩
            obtain ⟨rfl, yl⟩ := yl
            have hy := yl _ (.inl (.inl hu))
            rw [hx] at hy; cases hy
            exact ⟨Stp.refl _ _, ss2, rx⟩
        · cases e2
      · cases e2
theorem iter_rng {t : List Addr} {H : Hp} {lo : Int} {n : Nat} : IterOf G t H ⟨intRange lo n, none⟩ (Itr lo n) := fun i H' t' m ex ss _ => by
  have hl : (intRange lo n).length = n := by unfold intRange; rw [List.length_map, List.length_range]
  refine ⟨fun hi => by rw [hl] at hi; exact hi, fun d hd => ?_⟩
  have hi : i < n := by
    have := (List.getElem?_eq_some_iff.mp hd).1
    rw [hl] at this; exact this
  unfold intRange at hd
  rw [List.getElem?_map, List.getElem?_range hi] at hd
  cases hd
  refine ⟨hi, fun x H2 y => ?_⟩
  obtain ⟨rfl, rfl⟩ := y
  exact ⟨Stp.refl _ _, ss, .int _⟩
theorem di_itR1 {a : Expr} {p : Pos} {ms : M (List D)} (hg : Gl X "range") (hm : X.mg "range" = none) (ha : PA X [a] (RdA G W ms)) (hs : starEach [a] X.env = [(false, eval a X.env)]) (one : ∀ r m ds m1, ms r m = .ok ds m1 → ds.length = 1) : PI X tg (.Call (.Name "range" p) [a] [] pos) (RdI G W (mItR ms)) := by
  refine PI.imp (pi_range1 hg hm ha hs) fun s H Q ⟨r, μ, t, se, ss, k⟩ => ⟨r, μ, t, se, ss, ?_⟩
  unfold mItR at k
  cases e1 : ms r μ with
  | stuck => rw [e1] at k; exact k
  | exc kk fs m => rw [e1] at k; exact k
  | ok ds m =>
    rw [e1] at k
    simp only [R.bind] at k
    have h1 := one _ _ _ _ e1
    intro v H1 t1 ex ss1 rd
    cases e2 : rngI ds with
    | none => rw [e2] at k; exact k.elim
    | some it =>
      rw [e2] at k
      unfold rngI at e2
      split at e2
      · split at e2
        · rename_i c; cases e2
          obtain ⟨w, rfl, q⟩ := RDs.one rd
          cases q
          exact ⟨_, rfl, c.1, c.2, k _ H1 t1 ex ss1 iter_rng⟩
        · cases e2
      · simp at h1
      · cases e2
theorem di_itR2 {a b : Expr} {p : Pos} {ms : M (List D)} (hg : Gl X "range") (hm : X.mg "range" = none) (ha : PA X [a, b] (RdA G W ms)) (hs : starEach [a, b] X.env = [(false, eval a X.env), (false, eval b X.env)]) (hs2 : starEach [b] X.env = [(false, eval b X.env)]) (two : ∀ r m ds m1, ms r m = .ok ds m1 → ds.length = 2) :
    PI X tg (.Call (.Name "range" p) [a, b] [] pos) (RdI G W (mItR ms)) := by
  refine PI.imp (pi_range2 hg hm ha hs hs2) fun s H Q ⟨r, μ, t, se, ss, k⟩ => ⟨r, μ, t, se, ss, ?_⟩
  unfold mItR at k
  cases e1 : ms r μ with
  | stuck => rw [e1] at k; exact k
  | exc kk fs m => rw [e1] at k; exact k
  | ok ds m =>
    rw [e1] at k
    simp only [R.bind] at k
    have h1 := two _ _ _ _ e1
    intro v H1 t1 ex ss1 rd
    cases e2 : rngI ds with
    | none => rw [e2] at k; exact k.elim
    | some it =>
      rw [e2] at k
      unfold rngI at e2
      split at e2
      · simp at h1
      · split at e2
        · rename_i c; cases e2
          obtain ⟨w, w2, rfl, q, q2⟩ := RDs.two rd
          cases q; cases q2
          exact ⟨_, _, rfl, c, k _ H1 t1 ex ss1 iter_rng⟩
        · cases e2
      · cases e2
end

/-! ### statements -/
inductive RS where
  | nx (r : Env) (m : Sto) | ret (d : D) (m : Sto) | bk (r : Env) (m : Sto) | ct (r : Env) (m : Sto) | exc (k : Nat) (fs : List (Str × D)) (r : Env) (m : Sto) | stuck
abbrev SM := Env → Sto → RS
def KS (G : Gx) (W : WX) (x : RS) (t : List Addr) (H : Hp) (E : Ends) : Prop := match x with
  | .nx r m => ∀ s H' t', Stp t H t' H' → SE G t' H' r s → SS G t' H' m → E.nx s H'
  | .ret d m => ∀ v H' t', Stp t H t' H' → SS G t' H' m → RD G t' H' d v → E.rt v H'
  | .bk r m => ∀ s H' t', Stp t H t' H' → SE G t' H' r s → SS G t' H' m → E.bk s H'
  | .ct r m => ∀ s H' t', Stp t H t' H' → SE G t' H' r s → SS G t' H' m → E.ct s H'
  | .exc k fs r m => ∀ cls da s H' t', Stp t H t' H' → SE G t' H' r s → SS G t' H' m → RX G t' H' k fs cls da → W cls da s H'
  | .stuck => False
def RdS (G : Gx) (W : WX) (a : SM) : TS := fun E s H => ∃ r μ t, SE G t H r s ∧ SS G t H μ ∧ KS G W (a r μ) t H E
/-- an expression first -/
def RS.of {α : Type} (r : Env) (x : R α) (f : α → Sto → RS) : RS := match x with
  | .ok a m => f a m
  | .exc k fs m => .exc k fs r m
  | .stuck => .stuck
def RS.seq (x : RS) (f : Env → Sto → RS) : RS := match x with
  | .nx r m => f r m
  | .ret d m => .ret d m
  | .bk r m => .bk r m
  | .ct r m => .ct r m
  | .exc k fs r m => .exc k fs r m
  | .stuck => .stuck
def sNx : SM := fun r m => .nx r m
def sBk : SM := fun r m => .bk r m
def sCt : SM := fun r m => .ct r m
def sSeq (a b : SM) : SM := fun r m => (a r m).seq b
def sDrop (a : M D) : SM := fun r m => .of r (a r m) fun _ m1 => .nx r m1
def sRet (a : M D) : SM := fun r m => .of r (a r m) fun d m1 => .ret d m1
def sRetN : SM := fun _ m => .ret .non m
def sIf (c : M Bool) (a b : SM) : SM := fun r m => .of r (c r m) fun k m1 => if k = true then a r m1 else b r m1
def sAsg (p : P) (a : M D) : SM := fun r m => .of r (a r m) fun d m1 => match bindP p d r with
  | some r1 => .nx r1 m1
  | none => .stuck
open Classical in
noncomputable def forL (live : Sto → Prop) (p : P) (body : SM) : List D → Env → Sto → RS
  | [], r, m => if live m then .nx r m else .stuck
  | d :: ds, r, m => if live m then (match bindP p d r with
    | none => .stuck
    | some r1 => match body r1 m with
      | .nx r2 m2 => forL live p body ds r2 m2
      | .ct r2 m2 => forL live p body ds r2 m2
      | .bk r2 m2 => .nx r2 m2
      | x => x) else .stuck
noncomputable def sFor (it : M ItD) (p : P) (body : SM) : SM := fun r m => .of r (it r m) fun i m1 => forL (Live i) p body i.items r m1
section
variable {X : Cx} {G : Gx} {W : WX} {pos : Pos}
theorem PS.imp {st : Stmt} {t u : TS} (h : PS X st t) (i : ∀ E s H, u E s H → t E s H) : PS X st u := ⟨fun pins s σ H E I q => h.run pins s σ H E I (i _ _ _ q)⟩
theorem PSs.imp {st : List Stmt} {t u : TS} (h : PSs X st t) (i : ∀ E s H, u E s H → t E s H) : PSs X st u := ⟨fun pins s σ H E I q => h.run pins s σ H E I (i _ _ _ q)⟩
theorem KS.later {x : RS} {t t1 : List Addr} {H H1 : Hp} {E : Ends} (e : Stp t H t1 H1) (h : KS G W x t H E) : KS G W x t1 H1 E := by
  cases x with
  | nx r m => exact fun s H' t' e' => h s H' t' (e.trans e')
  | ret d m => exact fun v H' t' e' => h v H' t' (e.trans e')
  | bk r m => exact fun s H' t' e' => h s H' t' (e.trans e')
  | ct r m => exact fun s H' t' e' => h s H' t' (e.trans e')
  | exc k fs r m => exact fun c da s H' t' e' => h c da s H' t' (e.trans e')
  | stuck => exact h
/-- THE STEP for a statement that begins with an expression -/
theorem st_step {α β : Type} {rel : List Addr → Hp → α → β → Prop} {s : St} {H : Hp} {r : Env} {μ : Sto} {t : List Addr} {m1 : M α} {f : α → Sto → RS} {E : Ends} {Q' : β → Hp → Prop}
    (se : SE G t H r s) (ss : SS G t H μ) (k : KS G W (.of r (m1 r μ) f) t H E)
    (h : ∀ a μ' v H1 t1, Stp t H t1 H1 → SE G t1 H1 r s → SS G t1 H1 μ' → rel t1 H1 a v → KS G W (f a μ') t1 H1 E → Q' v H1) : Rd G W rel m1 s H Q' := by
  refine ⟨r, μ, t, se, ss, ?_⟩
  cases e : m1 r μ with
  | ok a μ' =>
    simp only [e, RS.of] at k
    exact fun v H' t' ex s' rl => h a μ' v H' t' ex (se.mono ex.le ex.ex) s' rl (k.later ex)
  | exc kk fs μ' =>
    simp only [e, RS.of] at k
    exact fun cls da H' t' ex s' rx => k cls da s H' t' ex (se.mono ex.le ex.ex) s' rx
  | stuck =>
    simp only [e, RS.of] at k
    exact k
theorem KS.nx_ {r : Env} {m : Sto} {t : List Addr} {H : Hp} {E : Ends} {s : St} (k : KS G W (.nx r m) t H E) (se : SE G t H r s) (ss : SS G t H m) : E.nx s H := k s H t (Stp.refl t H) se ss
theorem di_nxs : PSs X [] (RdS G W sNx) := PSs.imp pss_nil fun E s H ⟨r, μ, t, se, ss, k⟩ => KS.nx_ k se ss
theorem di_pass : PS X (.Pass pos) (RdS G W sNx) := PS.imp ps_pass fun E s H ⟨r, μ, t, se, ss, k⟩ => KS.nx_ k se ss
theorem di_brk : PS X (.Break pos) (RdS G W sBk) := PS.imp ps_break fun E s H ⟨r, μ, t, se, ss, k⟩ => k s H t (Stp.refl t H) se ss
theorem di_cont : PS X (.Continue pos) (RdS G W sCt) := PS.imp ps_continue fun E s H ⟨r, μ, t, se, ss, k⟩ => k s H t (Stp.refl t H) se ss
theorem rs_step {s : St} {H : Hp} {r : Env} {μ : Sto} {t : List Addr} {a : SM} {f : Env → Sto → RS} {E : Ends} {u : TS} (se : SE G t H r s) (ss : SS G t H μ) (k : KS G W ((a r μ).seq f) t H E)
    (h : ∀ r1 m1 s1 H1 t1, Stp t H t1 H1 → SE G t1 H1 r1 s1 → SS G t1 H1 m1 → KS G W (f r1 m1) t1 H1 E → u E s1 H1) : RdS G W a { E with nx := u E } s H := by
  refine ⟨r, μ, t, se, ss, ?_⟩
  cases e : a r μ with
  | nx r1 m1 =>
    simp only [e, RS.seq] at k
    exact fun s1 H1 t1 ex se1 ss1 => h r1 m1 s1 H1 t1 ex se1 ss1 (k.later ex)
  | ret d m => simp only [e, RS.seq] at k; exact k
  | bk r1 m => simp only [e, RS.seq] at k; exact k
  | ct r1 m => simp only [e, RS.seq] at k; exact k
  | exc kk fs r1 m => simp only [e, RS.seq] at k; exact k
  | stuck => simp only [e, RS.seq] at k; exact k
theorem di_seq {st : Stmt} {rest : List Stmt} {a b : SM} (h1 : PS X st (RdS G W a)) (h2 : PSs X rest (RdS G W b)) : PSs X (st :: rest) (RdS G W (sSeq a b)) :=
  PSs.imp (pss_cons h1 h2) fun E s H ⟨r, μ, t, se, ss, k⟩ => rs_step se ss k fun r1 m1 s1 H1 t1 _ se1 ss1 k1 => ⟨r1, m1, t1, se1, ss1, k1⟩
theorem di_one_s {st : Stmt} {a : SM} (h1 : PS X st (RdS G W a)) : PSs X [st] (RdS G W a) := pss_one h1
theorem di_drop {e : Expr} {a : M D} (he : PE X e (RdE G W a)) (hs : swapsWith e none pos.line X.env = pure false) : PS X (.Expr e pos) (RdS G W (sDrop a)) :=
  PS.imp (ps_expr he hs) fun E s H ⟨r, μ, t, se, ss, k⟩ => st_step se ss k fun d m1 v H1 t1 _ se1 ss1 _ k1 => KS.nx_ k1 se1 ss1
theorem di_ret {e : Expr} {a : M D} (he : PE X e (RdE G W a)) : PS X (.Return (some e) pos) (RdS G W (sRet a)) :=
  PS.imp (ps_ret he) fun E s H ⟨r, μ, t, se, ss, k⟩ => st_step se ss k fun d m1 v H1 t1 _ se1 ss1 rd k1 => k1 v H1 t1 (Stp.refl _ _) ss1 rd
theorem di_retN : PS X (.Return none pos) (RdS G W sRetN) := PS.imp ps_retN fun E s H ⟨r, μ, t, se, ss, k⟩ => k .non H t (Stp.refl _ _) ss .non
theorem di_ifS {c : Expr} {xs ys : List Stmt} {mc : M Bool} {a b : SM} (hc : PT X c (RdT G W mc)) (ha : PSs X xs (RdS G W a)) (hb : PSs X ys (RdS G W b)) : PS X (.If c xs ys pos) (RdS G W (sIf mc a b)) := by
  refine PS.imp (ps_if hc ha hb) fun E s H ⟨r, μ, t, se, ss, k⟩ => st_step se ss k fun d m1 v H1 t1 _ se1 ss1 rd k1 => ?_
  cases rd
  cases d with
  | true => exact ⟨r, m1, t1, se1, ss1, k1⟩
  | false => exact ⟨r, m1, t1, se1, ss1, k1⟩
theorem asg_end {p : P} {r : Env} {s : St} {t : List Addr} {H : Hp} {d : D} {v : V} {m : Sto} {E : Ends} (k : KS G W (match bindP p d r with
  | some r1 => RS.nx r1 m
  | none => .stuck) t H E) (se : SE G t H r s) (ss : SS G t H m) (rd : RD G t H d v) : RdG G p v s H E.nx := by
  cases e : bindP p d r with
  | none => rw [e] at k; exact k.elim
  | some r1 =>
    rw [e] at k
    exact ⟨d, r, t, r1, se, rd, e, fun s' se' _ => KS.nx_ k se' ss⟩
theorem di_asg {tg e : Expr} {a : M D} {p : P} (he : PE X e (RdE G W a)) (hg : PG X tg (RdG G p)) (hs : swapsWithSole [tg] e pos.line X.env = pure false) (hw : swappedStores [tg] e X.env = pure none) (h1 : (assignEach [tg] X.env).map (·.2) = [assign tg X.env]) :
    PS X (.Assign [tg] e pos) (RdS G W (sAsg p a)) :=
  PS.imp (ps_asg he hg hs hw h1) fun E s H ⟨r, μ, t, se, ss, k⟩ => st_step se ss k fun d m1 v H1 t1 _ se1 ss1 rd k1 => asg_end k1 se1 ss1 rd
theorem di_asgN {i : Nat} {x : Str} {e : Expr} {a : M D} {pos' : Pos} (hN : X.N.Nodup) (hi : X.N[i]? = some x) (hx : Loc X.env.scope x) (he : PE X e (RdE G W a)) (hs : swapsWith e (some (.Name x pos')) pos.line X.env = pure false) (hf : X.fn x = true ∨ X.env.scope.names.lookup x = some .local) :
    PS X (.Assign [.Name x pos'] e pos) (RdS G W (sAsg (.nm i) a)) :=
  PS.imp (ps_set hN hi hx he hs hf) fun E s H ⟨r, μ, t, se, ss, k⟩ => st_step se ss k fun d m1 v H1 t1 _ se1 ss1 rd k1 => KS.nx_ k1 (SE.set se1 rd) ss1
/-- a, b = x, y -/
theorem di_par {i j : Nat} {x y : Str} {a b : Expr} {ma mb : M D} {px py pt : Pos} {kt k2 pt2} (hc : X.calm = true) (hN : X.N.Nodup) (hi : X.N[i]? = some x) (hj : X.N[j]? = some y) (hij : i ≠ j)
    (hx : X.env.scope.names.lookup x = some .local) (hy : X.env.scope.names.lookup y = some .local) (ha : PA X [a, b] (RdA G W (mCons ma (mCons mb mNil))))
    (hw : swappedStores [.Tuple [.Name x px, .Name y py] kt pt] (.Tuple [a, b] k2 pt2) X.env = pure (some [x, y])) (hs : swapsWithSole [.Tuple [.Name x px, .Name y py] kt pt] (.Tuple [a, b] k2 pt2) pos.line X.env = pure false) :
    PS X (.Assign [.Tuple [.Name x px, .Name y py] kt pt] (.Tuple [a, b] k2 pt2) pos) (RdS G W (sAsg (.tp [.nm i, .nm j]) (mApN tupO (mCons ma (mCons mb mNil))))) := by
  refine PS.imp (ps_par hc hN hi hj hij hx hy ha hw hs) fun E s H ⟨r, μ, t, se, ss, k⟩ => ?_
  have k' : KS G W (.of r (mCons ma (mCons mb mNil) r μ) fun ds m1 => .of r (ofO (tupO ds m1)) fun d m1 => match bindP (.tp [.nm i, .nm j]) d r with
    | some r1 => RS.nx r1 m1
    | none => .stuck) t H E := by
    unfold sAsg mApN at k
    cases e : mCons ma (mCons mb mNil) r μ with
    | ok ds m => rw [e] at k; exact k
    | exc kk fs m => rw [e] at k; exact k
    | stuck => rw [e] at k; exact k
  refine st_step se ss k' fun ds m1 vs H1 t1 _ se1 ss1 rd k1 => ?_
  unfold tupO at k1
  split at k1
  · simp only [ofO, RS.of, bindP] at k1
    cases rd with
    | nil => simp only [bindPs] at k1; exact k1.elim
    | cons r1 rd =>
      cases rd with
      | nil => simp only [bindPs, bindP, Option.bind_some] at k1; exact k1.elim
      | cons r2 rd =>
        cases rd with
        | nil =>
          simp only [bindPs, bindP, Option.bind_some] at k1
          exact ⟨_, _, rfl, KS.nx_ k1 (SE.set (SE.set se1 r1) r2) ss1⟩
        | cons r3 rd => simp only [bindPs, bindP, Option.bind_some] at k1; exact k1.elim
  · exact k1.elim
theorem forL_cons {live : Sto → Prop} {p : P} {body : SM} {d : D} {ds : List D} {r : Env} {m : Sto} (h : live m) : forL live p body (d :: ds) r m = (match bindP p d r with
    | none => .stuck
    | some r1 => match body r1 m with
      | .nx r2 m2 => forL live p body ds r2 m2
      | .ct r2 m2 => forL live p body ds r2 m2
      | .bk r2 m2 => .nx r2 m2
      | x => x) := by
  rw [forL, if_pos h]
theorem forL_live {live : Sto → Prop} {p : P} {body : SM} {ds : List D} {r : Env} {m : Sto} (h : ¬ live m) : forL live p body ds r m = .stuck := by
  cases ds with
  | nil => rw [forL, if_neg h]
  | cons d ds => rw [forL, if_neg h]
theorem di_for {tg iter : Expr} {body : List Stmt} {mi : M ItD} {p : P} {b : SM} (hp : PassesOwn (model X.prog X.w) X.A X.env X.xe) (hc : X.calm = true) (hi : PI X tg iter (RdI G W mi)) (hg : PG X tg (RdG G p)) (hb : PSs X body (RdS G W b))
    (hs : ∀ x, foldedSetIterable iter X.env x = pure x) : PS X (.For tg iter body [] pos) (RdS G W (sFor mi p b)) := by
  refine PS.imp (ps_for hp hc hi hg hb hs) fun E s H ⟨r, μ, t, se, ss, k⟩ => st_step se ss k fun it m1 J H1 t1 _ se1 ss1 io k1 => ?_
  refine ⟨fun i n σ H2 => n = it.items.length - i ∧ i ≤ it.items.length ∧ ∃ r2 m2 t2, Stp t1 H1 t2 H2 ∧ SE G t2 H2 r2 σ ∧ SS G t2 H2 m2 ∧ KS G W (forL (Live it) p b (it.items.drop i) r2 m2) t2 H2 E, ⟨it.items.length, rfl, Nat.zero_le _, r, m1, t1, Stp.refl _ _, se1, ss1, k1⟩, ?_⟩
  rintro i n σ H2 ⟨rfl, hi2, r2, m2, t2, ex, se2, ss2, k2⟩
  by_cases lv : Live it m2
  · obtain ⟨st, go⟩ := io i H2 t2 m2 ex ss2 lv
    by_cases hlt : i < it.items.length
    · obtain ⟨g1, g2⟩ := go it.items[i] (List.getElem?_eq_getElem hlt)
      rw [List.drop_eq_getElem_cons hlt, forL_cons lv] at k2
      refine .inr ⟨g1, fun σ' H' => i + 1 ≤ it.items.length ∧ ∃ r3 m3 t3, Stp t1 H1 t3 H' ∧ SE G t3 H' r3 σ' ∧ SS G t3 H' m3 ∧ KS G W (forL (Live it) p b (it.items.drop (i + 1)) r3 m3) t3 H' E, fun σ' H' q => ⟨it.items.length - (i + 1), by omega, rfl, q.1, q.2⟩, fun x H3 y => ?_⟩
      obtain ⟨ex3, ss3, rd3⟩ := g2 x H3 y
      cases e : bindP p it.items[i] r2 with
      | none => rw [e] at k2; exact k2.elim
      | some r3 =>
        rw [e] at k2
        refine ⟨_, r2, t2, r3, se2.mono ex3.le ex3.ex, rd3, e, fun s' se' _ => ⟨r3, m2, t2, se', ss3, ?_⟩⟩
        simp only at k2
        cases eb : b r3 m2 with
        | nx r4 m4 => rw [eb] at k2; exact fun s4 H4 t4 ex4 se4 ss4 => ⟨hlt, r4, m4, t4, ex.trans (ex3.trans ex4), se4, ss4, k2.later (ex3.trans ex4)⟩
        | ct r4 m4 => rw [eb] at k2; exact fun s4 H4 t4 ex4 se4 ss4 => ⟨hlt, r4, m4, t4, ex.trans (ex3.trans ex4), se4, ss4, k2.later (ex3.trans ex4)⟩
        | bk r4 m4 => rw [eb] at k2; exact fun s4 H4 t4 ex4 se4 ss4 => k2 s4 H4 t4 (ex3.trans ex4) se4 ss4
        | ret d m4 => rw [eb] at k2; exact fun v H4 t4 ex4 => k2 v H4 t4 (ex3.trans ex4)
        | exc kk fs r4 m4 => rw [eb] at k2; exact fun c da s4 H4 t4 ex4 => k2 c da s4 H4 t4 (ex3.trans ex4)
        | stuck => rw [eb] at k2; exact k2
    · have e : i = it.items.length := by omega
      subst e
      refine .inl ⟨st (Nat.le_refl _), ?_⟩
      rw [List.drop_length, forL, if_pos lv] at k2
      exact KS.nx_ k2 se2 ss2
  · rw [forL_live lv] at k2
    exact k2.elim
end
end DI

set_option Elab.async false
set_option linter.all false
set_option maxRecDepth 100000
set_option maxHeartbeats 4000000
/-! DIH: comprehensions, stores into lists, append: actions and rules. -/
namespace DI
open PySem PySem.Spec L2
open PyProof.Rows hiding St

/-! ### comprehensions -/
def wipeE (r : Env) : List Nat → Env
  | [] => r
  | v :: vs => (wipeE r vs).set v none
open Classical in
noncomputable def lcL (live : Sto → Prop) (p : P) (mc : M Bool) (me : M D) (r : Env) : List D → List D → Sto → R D
  | [], acc, m => if live m then .ok (.lst acc) m else .stuck
  | d :: ds, acc, m => if live m then (match bindP p d r with
    | none => .stuck
    | some r1 => match mc r1 m with
      | .ok true m1 => (match me r1 m1 with
        | .ok y m2 => if acc.length < lim then lcL live p mc me r ds (acc ++ [y]) m2 else .stuck
        | _ => .stuck)
      | .ok false m1 => lcL live p mc me r ds acc m1
      | _ => .stuck) else .stuck
noncomputable def mLc (mi : M ItD) (own : List Nat) (p : P) (mc : M Bool) (me : M D) : M D := fun r m => (mi r m).bind fun it m1 => lcL (Live it) p mc me (wipeE r own) it.items [] m1
def mYes : M Bool := fun _ m => .ok true m
section
variable {X : Cx} {G : Gx} {W : WX} {pos : Pos}
theorem wipe_at {α : Type} (s : List (Option α)) : ∀ (vs : List Nat) (i : Nat), ((vs.foldr (fun v (t : List (Option α)) => t.set v none) s)[i]?) = if i ∈ vs then (if i < s.length then some none else none) else s[i]?
  | [], i => by simp
  | v :: vs, i => by
    have ih := wipe_at s vs i
    have len : ∀ us : List Nat, (us.foldr (fun v (t : List (Option α)) => t.set v none) s).length = s.length := fun us => by
      induction us with
      | nil => rfl
      | cons u us ih => rw [List.foldr_cons, List.length_set, ih]
    rw [List.foldr_cons]
    by_cases h : v = i
    · subst h
      by_cases hl : v < s.length
      · rw [List.getElem?_set_self (by rw [len]; exact hl)]
        simp [hl]
      · rw [List.getElem?_eq_none (by rw [List.length_set, len]; omega)]
        simp [hl]
    · rw [List.getElem?_set_ne h, ih]
      have : (i ∈ v :: vs) ↔ i ∈ vs := by simp [List.mem_cons, Ne.symm h]
      simp [this]
theorem wipe_foldr (s : St) (vs : List Nat) : wipe s vs = vs.foldr (fun v (t : St) => t.set v none) s := by
  induction vs with
  | nil => rfl
  | cons v vs ih => rw [List.foldr_cons, ← ih]; rfl
theorem wipeE_foldr (s : Env) (vs : List Nat) : wipeE s vs = vs.foldr (fun v (t : Env) => t.set v none) s := by
  induction vs with
  | nil => rfl
  | cons v vs ih => rw [List.foldr_cons, ← ih]; rfl
theorem wipe_but {s s' : St} {l vs : List Nat} (b : But l (wipe s vs) s') (h : ∀ i ∈ l, i ∈ vs) : wipe s' vs = wipe s vs := by
  have hl : s'.length = s.length := by rw [b.1, wipe_length]
  apply List.ext_getElem?
  intro i
  rw [wipe_foldr, wipe_foldr, wipe_at, wipe_at, hl]
  by_cases hi : i ∈ vs
  · rw [if_pos hi, if_pos hi]
  · rw [if_neg hi, if_neg hi, b.2 i (fun z => hi (h i z)), wipe_foldr, wipe_at, if_neg hi]
theorem SE.wipe {t : List Addr} {H : Hp} {r : Env} {s : St} (se : SE G t H r s) (vs : List Nat) : SE G t H (wipeE r vs) (L2.wipe s vs) := by
  refine ⟨?_, fun i d h => ?_⟩
  · rw [wipe_length, ← se.len]
    induction vs with
    | nil => rfl
    | cons v vs ih => show ((wipeE r vs).set v none).length = _; rw [List.length_set, ih]
  · rw [wipeE_foldr, wipe_at] at h
    rw [wipe_foldr, wipe_at]
    by_cases hi : i ∈ vs
    · rw [if_pos hi] at h
      split at h <;> cases h
    · rw [if_neg hi] at h ⊢
      exact se.at_ i d h
theorem Stp.over {t t1 : List Addr} {H H1 : Hp} {p : Addr} {o u : HO} (h : Stp t H t1 H1) (hn : H p = none) (e : H1 p = some o) (s : Soft o) : Stp t H t1 (upd H1 p u) :=
  ⟨h.le, h.ex.trans (Ext.put e s), fun b x q n => by rw [upd_ne (ne_of_none q hn)]; exact h.keep b x q n, h.new⟩
theorem lcL_cons {live : Sto → Prop} {p : P} {mc : M Bool} {me : M D} {r : Env} {d : D} {ds acc : List D} {m : Sto} (h : live m) : lcL live p mc me r (d :: ds) acc m = (match bindP p d r with
    | none => .stuck
    | some r1 => match mc r1 m with
      | .ok true m1 => (match me r1 m1 with
        | .ok y m2 => if acc.length < lim then lcL live p mc me r ds (acc ++ [y]) m2 else .stuck
        | _ => .stuck)
      | .ok false m1 => lcL live p mc me r ds acc m1
      | _ => .stuck) := by
  rw [lcL, if_pos h]
theorem lcL_live {live : Sto → Prop} {p : P} {mc : M Bool} {me : M D} {r : Env} {ds acc : List D} {m : Sto} (h : ¬ live m) : lcL live p mc me r ds acc m = .stuck := by
  cases ds with
  | nil => rw [lcL, if_neg h]
  | cons d ds => rw [lcL, if_neg h]
abbrev W0 : WX := fun _ _ _ _ => False
/-- the comprehension's reading from its action -/
theorem lc_reads {s : St} {H1 : Hp} {Q : VK} {mi : M ItD} {own : List Nat} {p : P} {mc : M Bool} {me : M D} (hp : ∀ i ∈ slotsP p, i ∈ own) {H : Hp} (h : RdE G W (mLc mi own p mc me) s H Q) : tLc (RdI G W mi) (RdG G p) (RdT G W0 mc) (RdE G W0 me) own s H (WantF Q) := by
  obtain ⟨r, μ, t, se, ss, k⟩ := h
  refine rd_step se ss k fun it m1 J H1 t1 _ se1 ss1 io k1 => ?_
  intro Dl hD
  have hDt : Dl ∉ t1 := fun z => by obtain ⟨u, e⟩ := ss1.kn _ z; rw [hD] at e; cases e
  refine ⟨fun i n H2 => n = it.items.length - i ∧ i ≤ it.items.length ∧ ∃ acc vs m2 t2, Stp t1 H1 t2 H2 ∧ Dl ∉ t2 ∧ SS G t2 H2 m2 ∧ H2 Dl = some (.lst vs) ∧ RDs G t2 H2 acc vs ∧ KE G W s (relD G) (lcL (Live it) p mc me (wipeE r own) (it.items.drop i) acc m2) t1 H1 Q,
    ⟨it.items.length, rfl, Nat.zero_le _, [], [], m1, t1, Stp.fresh hD, hDt, ss1.new hD, upd_same, .nil, k1⟩, ?_⟩
  rintro i n H2 ⟨rfl, hi2, acc, vs, m2, t2, ex, nt2, ss2, hv, ra, k2⟩
  by_cases lv : Live it m2
  · obtain ⟨st, go⟩ := io i H2 t2 m2 ex ss2 lv
    by_cases hlt : i < it.items.length
    · obtain ⟨g1, g2⟩ := go it.items[i] (List.getElem?_eq_getElem hlt)
      rw [List.drop_eq_getElem_cons hlt, lcL_cons lv] at k2
      refine .inr ⟨g1, fun H' => i + 1 ≤ it.items.length ∧ ∃ acc vs m2 t2, Stp t1 H1 t2 H' ∧ Dl ∉ t2 ∧ SS G t2 H' m2 ∧ H' Dl = some (.lst vs) ∧ RDs G t2 H' acc vs ∧ KE G W s (relD G) (lcL (Live it) p mc me (wipeE r own) (it.items.drop (i + 1)) acc m2) t1 H1 Q, fun H' q => ⟨it.items.length - (i + 1), by omega, rfl, q.1, q.2⟩, fun x H3 y => ?_⟩
      obtain ⟨ex3, ss3, rd3⟩ := g2 x H3 y
      have hv3 := ex3.keep _ _ hv nt2
      cases e : bindP p it.items[i] (wipeE r own) with
      | none => rw [e] at k2; exact k2.elim
      | some r3 =>
        rw [e] at k2
        refine ⟨_, wipeE r own, t2, r3, ((se1.wipe own).mono (ex.trans ex3).le (ex.trans ex3).ex), rd3, e, fun s' se' bt => ⟨wipe_but bt hp, r3, m2, t2, se', ss3, ?_⟩⟩
        simp only at k2
        cases ec : mc r3 m2 with
        | stuck => rw [ec] at k2; exact k2.elim
        | exc kk fs m4 => rw [ec] at k2; exact k2.elim
        | ok b m4 =>
          rw [ec] at k2
          intro b' H4 t4 ex4 ss4 rb
          cases rb
          have ex24 := ex3.trans ex4
          have nt4 : Dl ∉ t4 := fun z => (ex4.new _ z).elim nt2 fun q => by rw [hv3] at q; cases q
          have hv4 := ex4.keep _ _ hv3 nt2
          cases b with
          | false =>
            exact ⟨hlt, acc, vs, m4, t4, ex.trans ex24, nt4, ss4, hv4, ra.mono ex24.le ex24.ex, k2⟩
          | true =>
            refine ⟨r3, m4, t4, se'.mono ex4.le ex4.ex, ss4, ?_⟩
            simp only at k2
            cases ey : me r3 m4 with
            | stuck => rw [ey] at k2; exact k2.elim
            | exc kk fs m5 => rw [ey] at k2; exact k2.elim
            | ok d m5 =>
              rw [ey] at k2
              simp only at k2
              intro v H5 t5 ex5 ss5 rv
              have hv5 := ex5.keep _ _ hv4 nt4
              have nt5 : Dl ∉ t5 := fun z => (ex5.new _ z).elim nt4 fun q => by rw [hv4] at q; cases q
              have ex25 := ex24.trans ex5
              split at k2
              · rename_i hl
                refine ⟨vs, hv5, ?_, hlt, acc ++ [d], vs ++ [v], m5, t5, (ex.trans ex25).over hD hv5 trivial, nt5, ss5.out nt5 hv5 trivial, upd_same, ?_, k2⟩
                · rw [← ra.length]; exact lim_lt hl
                · exact ((ra.mono ex25.le ex25.ex).append (.cons rv .nil)).mono (Le.refl _) (Ext.put hv5 trivial)
              · exact k2.elim
    · have e : i = it.items.length := by omega
      subst e
      refine .inl ⟨st (Nat.le_refl _), ?_⟩
      rw [List.drop_length, lcL, if_pos lv] at k2
      refine ⟨Dl, vs, rfl, hv, fun o => ?_⟩
      exact k2 _ _ t2 (ex.over hD hv trivial) (ss2.out nt2 hv trivial) (.lst ⟨o, upd_same⟩ (ra.mono (Le.refl _) (Ext.put hv trivial)))
  · rw [lcL_live lv] at k2
    exact k2.elim
theorem di_lc {elt tg iter : Expr} {ifs : List Expr} {scope : Scope} {own : List (Str × Nat)} {mi : M ItD} {p : P} {mc : M Bool} {me : M D} (hc : X.calm = true) (hN : X.N.Nodup) (hi : PI X tg iter (RdI G W mi)) (ok : BlkOk X.N X.env.scope scope own) (hp : ∀ i ∈ slotsP p, i ∈ own.map (·.2))
    (hg : ∀ (s : Shared) (H : Hp) (C : Addr) (cl : List (Str × Addr)) (fp : List Addr), PG (X.blk s H scope (compEnvC scope cl C X.env) fp) tg (RdG G p)) (ht : ∀ (s : Shared) (H : Hp) (C : Addr) (cl : List (Str × Addr)) (fp : List Addr), PTs (X.blk s H scope (compEnvC scope cl C X.env) fp) ifs (RdT G W0 mc))
    (he : ∀ (s : Shared) (H : Hp) (C : Addr) (cl : List (Str × Addr)) (fp : List Addr), PE (X.blk s H scope (compEnvC scope cl C X.env) fp) elt (RdE G W0 me)) (hs : ∀ x, foldedSetIterable iter X.env x = pure x) :
    PE X (.ListComp elt [⟨tg, iter, ifs, 0⟩] scope pos) (RdE G W (mLc mi (own.map (·.2)) p mc me)) :=
  PE.imp (pe_frz (pe_lc hc hN hi ok hg ht he hs)) fun s H Q h => lc_reads (H1 := H) hp h
/-- name = [..] where the store is exchanged -/
theorem ps_frzLc {tg : Expr} {i : Nat} {t : TE} {st : Stmt} (h : PS X st (tAsg t (gName i))) (hi : i < X.N.length) : True := trivial
theorem di_yes {ifs : List Expr} (h : ifs = []) : PTs X ifs (RdT G W0 mYes) := by
  subst h
  exact ⟨fun pins s σ H Q I q => pts_nil.run pins s σ H Q I (by obtain ⟨r, μ, t, se, ss, k⟩ := q; exact KE.ok_ k ss rfl)⟩
theorem di_ifc {c : Expr} {mc : M Bool} (h : PT X c (RdT G W0 mc)) : PTs X [c] (RdT G W0 mc) := pts_one h

/-! ### stores into mutable lists -/
theorem SS.put {t : List Addr} {H : Hp} {m : Sto} {l : Nat} {a : Addr} {xs ys : List D} {vs us : List V} (ss : SS G t H m) (h : m[l]? = some (.lst xs)) (ha : t[l]? = some a) (hv : H a = some (.lst vs)) (r : RDs G t H ys us) : SS G t (upd H a (.lst us)) (m.set l (.lst ys)) := by
  have hl : l < m.length := (List.getElem?_eq_some_iff.mp h).1
  have at_ : ∀ (j : Nat) (o : O), (m.set l (.lst ys))[j]? = some o → (j = l ∧ o = .lst ys) ∨ (j ≠ l ∧ m[j]? = some o) := fun j o q => by
    by_cases z : l = j
    · subst z; rw [List.getElem?_set_self hl] at q; cases q; exact .inl ⟨rfl, rfl⟩
    · rw [List.getElem?_set_ne z] at q; exact .inr ⟨Ne.symm z, q⟩
  have ex : Ext H (upd H a (.lst us)) := Ext.put hv trivial
  refine ⟨by rw [List.length_set]; exact ss.len, fun j o q => ?_, fun b q => ?_, fun j j' o o' q h1 h2 n1 n2 h3 h4 => ?_⟩
  · rcases at_ j o q with ⟨rfl, rfl⟩ | ⟨ne, q⟩
    · exact ⟨a, ha, us, upd_same, r.mono (Le.refl t) ex⟩
    · obtain ⟨b, hb, ob⟩ := ss.ob j o q
      refine ⟨b, hb, ?_⟩
      by_cases z : o = .dead
      · subst z; trivial
      · have nb : b ≠ a := fun e => ne (ss.inj j l o _ a q h z (fun w => nomatch w) (by rw [← e]; exact hb) ha)
        exact ob.mono (Le.refl t) ex fun u hu _ => by rw [upd_ne nb]; exact hu
  · by_cases z : b = a
    · subst z; exact ⟨_, upd_same⟩
    · obtain ⟨u, e⟩ := ss.kn b q; exact ⟨u, by rw [upd_ne z]; exact e⟩
  · have h1' : ∃ o1, m[j]? = some o1 ∧ o1 ≠ .dead := by
      rcases at_ j o h1 with ⟨rfl, _⟩ | ⟨_, q⟩
      · exact ⟨_, h, fun z => nomatch z⟩
      · exact ⟨_, q, n1⟩
    have h2' : ∃ o1, m[j']? = some o1 ∧ o1 ≠ .dead := by
      rcases at_ j' o' h2 with ⟨rfl, _⟩ | ⟨_, q⟩
      · exact ⟨_, h, fun z => nomatch z⟩
      · exact ⟨_, q, n2⟩
    obtain ⟨o1, e1, d1⟩ := h1'
    obtain ⟨o2, e2, d2⟩ := h2'
    exact ss.inj j j' o1 o2 q e1 e2 d1 d2 h3 h4
/-- o[i] = v, o a mutable list -/
def setD (o i v : D) (m : Sto) : Option Sto := match o, i with
  | .ref l, .int k => match m[l]? with
    | some (.lst xs) => match ixN xs.length k with
      | some j => some (m.set l (.lst (xs.set j v)))
      | none => none
    | _ => none
  | _, _ => none
def sSetIx (o i a : M D) : SM := fun r m => .of r (a r m) fun v m1 => .of r (o r m1) fun x m2 => .of r (i r m2) fun y m3 => match setD x y v m3 with
  | some m4 => .nx r m4
  | none => .stuck
theorem di_setIx {oe ie e : Expr} {o i a : M D} {tpos : Pos} (he : PE X e (RdE G W a)) (ho : PE X oe (RdE G W o)) (hi : PE X ie (RdE G W i)) (ha : ∀ v, assign (.Subscript oe ie tpos) X.env v = (do
      let ov ← holding [v] (eval oe X.env)
      let iv ← holding [v, ov] (eval ie X.env)
      standAt tpos
      holding [v, ov, iv] (setItem ov iv v)
      release [v, ov, iv] [])) (hs : swapsWithSole [.Subscript oe ie tpos] e pos.line X.env = pure false) (hw : swappedStores [.Subscript oe ie tpos] e X.env = pure none) : PS X (.Assign [.Subscript oe ie tpos] e pos) (RdS G W (sSetIx o i a)) := by
  refine PS.imp (ps_asg he (pg_sub ho hi set_list ha) hs hw rfl) fun E s H ⟨r, μ, t, se, ss, k⟩ => ?_
  refine st_step se ss k fun d m1 v H1 t1 _ se1 ss1 rd k1 => st_step se1 ss1 k1 fun x m2 ov H2 t2 e2 se2 ss2 rx k2 => st_step se2 ss2 k2 fun y m3 iv H3 t3 e3 se3 ss3 ry k3 => ?_
  cases e : setD x y d m3 with
  | none => rw [e] at k3; exact k3.elim
  | some m4 =>
    rw [e] at k3
    unfold setD at e
    split at e
    · split at e
      · rename_i hl
        split at e
        · rename_i j hj
          cases e
          cases ry
          cases rx with
          | ref hx =>
            have hx3 := e3.le _ _ hx
            obtain ⟨vs, hv, q⟩ := ss3.lst hl hx3
            refine ⟨_, _, _, j, rfl, rfl, hv, by rw [← q.length]; exact hj, ?_⟩
            have rd3 := RD.mono (e2.trans e3).le (e2.trans e3).ex rd
            exact k3 s _ t3 (Stp.put (List.mem_of_getElem? hx3) hv trivial) (se3.mono (Le.refl _) (Ext.put hv trivial)) (ss3.put hl hx3 hv (q.set rd3 j))
        · cases e
      · cases e
    · cases e
/-- xs.append(v), xs a mutable list -/
def appO : D → ON := fun o ds m => match o, ds with
  | .ref l, [v] => match m[l]? with
    | some (.lst xs) => if xs.length < lim then some (.non, m.set l (.lst (xs ++ [v]))) else none
    | _ => none
  | _, _ => none
def mMeth (f : D → ON) (o : M D) (a : M (List D)) : M D := fun r m => (o r m).bind fun x m1 => (a r m1).bind fun ds m2 => ofO (f x ds m2)
end
end DI

set_option Elab.async false
set_option linter.all false
set_option maxRecDepth 100000
set_option maxHeartbeats 4000000
/-! DIJ: append; what a def of the text promises (FnG), its call, its making. -/
namespace DI
open PySem PySem.Spec L2
open PyProof.Rows hiding St

/-! ### xs.append(v) -/
def isLst (x : D) (m : Sto) : Bool := match x with
  | .ref l => match m[l]? with
    | some (.lst _) => true
    | _ => false
  | _ => false
def mApp (o : M D) (a : M (List D)) : M D := fun r m => (o r m).bind fun x m1 => if isLst x m1 = true then (a r m1).bind fun ds m2 => ofO (appO x ds m2) else .stuck
section
variable {X : Cx} {G : Gx} {W : WX} {pos : Pos} {o e : Expr} {mo : M D} {ms : M (List D)}
theorem di_app {apos cpos : Pos} (ho : PE X o (RdE G W mo)) (ha : PA X [e] (RdA G W ms)) (hb : attributeBase o "append" X.env (eval o X.env) = eval o X.env)
    (hf : ((backTo cpos (starEach [e] X.env)).all (fun x => !x.1) && (backToKw cpos (keywordEach [] X.env)).all (fun x => x.1.isSome) && decide (([e] : List Expr).length + ([] : List Keyword).length + (if ([] : List Keyword).isEmpty then 0 else 1) < 30)) = true)
    (hl : (apos.endLine == cpos.line) = true) (hs : starEach [e] X.env = (false, eval e X.env) :: starEach [] X.env) (hp : (backTo cpos (starEach [] X.env)).any (·.1) = false) :
    PE X (.Call (.Attribute o "append" apos) [e] [] cpos) (RdE G W (mApp mo ms)) := by
  refine PE.imp (pe_bm F.plainAttrs_list F.slot_list_append F.type_list_append mt_append ho ha hb hf hl hs hp) fun s H Q ⟨r, μ, t, se, ss, k⟩ => ?_
  refine rd_step se ss k fun x m1 v H1 t1 _ se1 ss1 rx k1 => ?_
  cases c : isLst x m1 with
  | false => rw [c] at k1; exact k1.elim
  | true =>
    rw [c] at k1
    unfold isLst at c
    split at c
    · rename_i l
      split at c
      · rename_i xs hx
        cases rx with
        | ref hr =>
          obtain ⟨vs, hv, q⟩ := ss1.lst hx hr
          refine ⟨.inl ⟨rfl, vs, .inl (.inl hv)⟩, ?_⟩
          refine rd_step se1 ss1 k1 fun ds m2 us H2 t2 e2 _ ss2 rds k2 => ?_
          have k3 := KE.ofO_ k2
          cases e3 : appO (.ref l) ds m2 with
          | none => rw [e3] at k3; exact k3.elim
          | some p =>
            rw [e3] at k3
            unfold appO at e3
            split at e3
            · rename_i l' d heq
              cases heq
              split at e3
              · rename_i ys hy
                split at e3
                · rename_i hlen
                  cases e3
                  have hr2 := e2.le _ _ hr
                  obtain ⟨zs, hz, q2⟩ := ss2.lst hy hr2
                  obtain ⟨u, rfl, ru⟩ := RDs.one rds
                  refine ⟨_, zs, u, rfl, rfl, hz, by rw [← q2.length]; exact lim_lt hlen, ?_⟩
                  exact k3 _ _ t2 (Stp.put (List.mem_of_getElem? hr2) hz trivial) (ss2.put hy hr2 hz (q2.append (.cons ru .nil))) .non
                · cases e3
              · cases e3
            · cases e3
      · cases c
    · cases c
end

/-! ### what a def promises -/
abbrev CallF := Nat → List D → Sto → R D
/-- the promise of the text's def of number k with n parameters -/
def spG (G : Gx) (call : CallF) (k n : Nat) : Sp := fun vs H Q E => vs.length = n ∧ ∃ ds μ t, SS G t H μ ∧ RDs G t H ds vs ∧ KE G (fun c d _ H' => E c d H') [] (relD G) (call k ds μ) t H Q
/-- as a def's promise is told, but for callers that guard nothing -/
structure FnG (P : Program) (w : World) (K : PySem.W.Frag) (mg : Str → Option Value) (base : Heap) (lev : Nat) (f : Addr) (fd : FuncData) (ps : List Str) (sp : Sp) : Prop where
  cnt : ∀ vs H Q E, sp vs H Q E → vs.length = ps.length
  go : ∀ (A : Around) (out : List PySem.Env) (s : Shared) (H : Hp) (args : Args) (us : List Value) (vs : List V) (Q : VK) (E : XK), Room lev A → A.guards = some [] → Env0 P w K mg base A out s H →
    BindsTo s fd args (ps.zip us) → Vals vs us → sp vs H Q E → codeAny (model P w) A (.call (.ref f) args) (CR (L2.CX P w) out P w H s Q E) s
section
variable {P : Program} {w : World} {K : PySem.W.Frag} {mg : Str → Option Value} {base : Heap}
theorem FnG.imp {lev : Nat} {f : Addr} {fd : FuncData} {ps : List Str} {sp sp' : Sp} (F : FnG P w K mg base lev f fd ps sp) (h : ∀ vs H Q E, sp' vs H Q E → sp vs H Q E) : FnG P w K mg base lev f fd ps sp' :=
  ⟨fun vs H Q E q => F.cnt vs H Q E (h _ _ _ _ q), fun A out s H args us vs Q E r g e b v q => F.go A out s H args us vs Q E r g e b v (h _ _ _ _ q)⟩
end
section
variable {X : Cx} {lev : Nat} {f : Addr} {fd : FuncData} {ps : List Str} {sp : Sp} {ws : List V} {ds : List Value} {W : WX} {x : Str} {p pos : Pos} {e : Expr} {es : List Expr} {t : TA}
theorem goG {pins : List (Addr × Obj)} {σ : St} {H : Hp} {s : Shared} {Q : VK} {us : List Value} {vs : List V} (F : FnG X.prog X.w X.K X.mg X.base lev f fd ps sp) (hr : Room lev X.A) (hgd : X.A.guards = some []) (hb : Binds X.K fd ps ds) (hd : Vals ws ds) (tk : Takes X W)
    (I : Inv X pins σ H s) (rv : Vals vs us) (h : sp (vs ++ ws) H Q (fun c d H' => W c d σ H')) : wpAny (model X.prog X.w) X.A (call (.ref f) us) (EP X pins σ Q) X.xe s := by
  have rw_ : Vals (vs ++ ws) (us ++ ds) := rv.append hd
  have cl : (us ++ ds).length = ps.length := rw_.length.symm.trans (F.cnt _ _ _ _ h)
  refine wpAny_call (codeAny_mono (F.go X.A X.stack s H ⟨us, []⟩ (us ++ ds) (vs ++ ws) Q _ hr hgd I.env0 (hb s us I.kIn cl) rw_ h) fun res s2 hq => ?_)
  match res, hq with
  | .error e, hq => exact tk e s2 (XE.of_call I (fun _ _ _ z => z) hq)
  | .ok (.ret u), hq => exact I.after hq
  | .ok .next, hq => exact False.elim hq
  | .ok .brk, hq => exact False.elim hq
  | .ok .cont, hq => exact False.elim hq
def tCallG (sp : Sp) (ws : List V) (W : WX) (t : TA) : TE := fun σ H Q => t σ H fun vs H1 => sp (vs ++ ws) H1 Q (fun c d H' => W c d σ H')
theorem pe_callG (F : FnG X.prog X.w X.K X.mg X.base lev f fd ps sp) (hr : Room lev X.A) (hgd : X.A.guards = some []) (hg : Gl X x) (hm : X.mg x = some (.ref f)) (hk : PySem.W.keepIn X.K (.ref f) = true) (hb : Binds X.K fd ps ds) (hd : Vals ws ds) (tk : Takes X W)
    (ha : PA X (e :: es) t) (hdb : (x == ("__debug__" : Str)) = false) (he : starEach (e :: es) X.env = (false, eval e X.env) :: starEach es X.env) (hpl : (backTo pos (starEach es X.env)).any (·.1) = false) : PE X (.Call (.Name x p) (e :: es) [] pos) (tCallG sp ws W t) := by
  refine ⟨fun pins s σ H Q I h => wpAny_Call_Name_kw (ld_glob I hg hm ?_ hdb)⟩
  refine PySem.W.callWith_K (h₀ := X.base) I.ok.mod.kin hk (thn (ha.run pos pins s σ H _ I h) fun us s1 hh => ?_) he hpl
  obtain ⟨vs, H1, I1, rv, q⟩ := hh
  exact ⟨I1.kIn, goG F hr hgd hb hd tk I1 rv q⟩
theorem pe_callG0 (F : FnG X.prog X.w X.K X.mg X.base lev f fd ps sp) (hr : Room lev X.A) (hgd : X.A.guards = some []) (hg : Gl X x) (hm : X.mg x = some (.ref f)) (hk : PySem.W.keepIn X.K (.ref f) = true) (hb : Binds X.K fd ps ds) (hd : Vals ws ds) (tk : Takes X W)
    (hdb : (x == ("__debug__" : Str)) = false) : PE X (.Call (.Name x p) [] [] pos) (tCallG sp ws W tNil) := by
  refine ⟨fun pins s σ H Q I h => wpAny_Call_Name_kw (ld_glob I hg hm ?_ hdb)⟩
  exact PySem.W.callWith_K0 I.kIn hk (goG (us := []) F hr hgd hb hd tk I .nil h)
end
section
variable {X : Cx} {G : Gx} {W : WX} {call : CallF} {k n lev : Nat} {f : Addr} {fd : FuncData} {ps : List Str} {ws : List V} {ds : List Value} {x : Str} {p pos : Pos} {e : Expr} {es : List Expr} {ms : M (List D)} {dfl : List D}
/-- f(e, ..) -/
theorem di_call (F : FnG X.prog X.w X.K X.mg X.base lev f fd ps (spG G call k n)) (hr : Room lev X.A) (hgd : X.A.guards = some []) (hg : Gl X x) (hm : X.mg x = some (.ref f)) (hk : PySem.W.keepIn X.K (.ref f) = true) (hb : Binds X.K fd ps ds) (hd : Vals ws ds) (tk : Takes X W)
    (hw : ∀ t H, RDs G t H dfl ws) (ha : PA X (e :: es) (RdA G W ms)) (hn : ∀ r m xs m1, ms r m = .ok xs m1 → xs.length + dfl.length = n) (hdb : (x == ("__debug__" : Str)) = false) (he : starEach (e :: es) X.env = (false, eval e X.env) :: starEach es X.env)
    (hpl : (backTo pos (starEach es X.env)).any (·.1) = false) : PE X (.Call (.Name x p) (e :: es) [] pos) (RdE G W (mCall call k ms dfl)) := by
  refine PE.imp (pe_callG F hr hgd hg hm hk hb hd tk ha hdb he hpl) fun s H Q ⟨r, μ, t, se, ss, kk⟩ => ?_
  refine ⟨r, μ, t, se, ss, ?_⟩
  unfold mCall at kk
  cases e1 : ms r μ with
  | stuck => rw [e1] at kk; exact kk
  | exc _ _ _ => rw [e1] at kk; exact kk
  | ok xs m1 =>
    rw [e1] at kk
    intro vs H1 t1 ex ss1 rds
    have l1 := hn _ _ _ _ e1
    have rr := rds.append (hw t1 H1)
    refine ⟨by rw [← rr.length, List.length_append]; exact l1, xs ++ dfl, m1, t1, ss1, rr, ?_⟩
    have k1 : KE G W s (relD G) (call k (xs ++ dfl) m1) t1 H1 Q := KE.later ex kk
    cases e2 : call k (xs ++ dfl) m1 with
    | stuck => rw [e2] at k1; exact k1
    | exc _ _ _ => rw [e2] at k1; exact k1
    | ok _ _ => rw [e2] at k1; exact k1
theorem di_call0 (F : FnG X.prog X.w X.K X.mg X.base lev f fd ps (spG G call k n)) (hr : Room lev X.A) (hgd : X.A.guards = some []) (hg : Gl X x) (hm : X.mg x = some (.ref f)) (hk : PySem.W.keepIn X.K (.ref f) = true) (hb : Binds X.K fd ps ds) (hd : Vals ws ds) (tk : Takes X W)
    (hw : ∀ t H, RDs G t H dfl ws) (hn : dfl.length = n) (hdb : (x == ("__debug__" : Str)) = false) : PE X (.Call (.Name x p) [] [] pos) (RdE G W (mCall call k mNil dfl)) := by
  refine PE.imp (pe_callG0 F hr hgd hg hm hk hb hd tk hdb) fun s H Q ⟨r, μ, t, se, ss, kk⟩ => ?_
  have rr := hw t H
  refine ⟨by rw [List.nil_append, ← rr.length]; exact hn, dfl, μ, t, ss, by rw [List.nil_append]; exact rr, ?_⟩
  have k1 : KE G W s (relD G) (call k dfl μ) t H Q := kk
  cases e2 : call k dfl μ with
  | stuck => rw [e2] at k1; exact k1
  | exc _ _ _ => rw [e2] at k1; exact k1
  | ok _ _ => rw [e2] at k1; exact k1
end

/-! ### the making of a def's promise -/
/-- a body's end as a call's end -/
def fin : RS → R D
  | .nx _ m => .ok .non m
  | .ret d m => .ok d m
  | .exc k fs _ m => .exc k fs m
  | _ => .stuck
def startE (n : Nat) (ds : List D) : Env := ds.map some ++ List.replicate (n - ds.length) none
theorem se_start {G : Gx} {t : List Addr} {H : Hp} {N : List Str} {ds : List D} {vs : List V} (r : RDs G t H ds vs) : SE G t H (startE N.length ds) (L2.start N vs) := by
  have hl := r.length
  refine ⟨by unfold startE L2.start; simp [hl], fun i d q => ?_⟩
  have hi : i < ds.length := by
    unfold startE at q
    by_cases hi : i < ds.length
    · exact hi
    · rw [List.getElem?_append_right (by simpa using hi), List.getElem?_replicate] at q
      split at q <;> cases q
  unfold startE at q
  rw [List.getElem?_append_left (by simpa using hi), List.getElem?_map] at q
  cases e : ds[i]? with
  | none => rw [e] at q; cases q
  | some a =>
    rw [e] at q; cases q
    obtain ⟨v, hv, rd⟩ := r.get e
    exact ⟨v, by unfold L2.start; rw [List.getElem?_append_left (by rw [List.length_map, ← hl]; exact hi), List.getElem?_map, hv]; rfl, rd⟩
section
variable {P : Program} {w : World} {K : PySem.W.Frag} {mg : Str → Option Value} {base : Heap}
theorem fn_ofG {lev : Nat} {f : Addr} {name qual : Str} {params : Arguments} {body : List Stmt} {scope : Scope} {dV kV doc pm cdv ct oc : Value} {an od : Option Addr} {osl : Array (Option Value)} {N ps : List Str} {sp : Sp}
    (lk : K.lookup f = some ⟨oc, od, .func (PySem.W.fnOf name qual params body scope dV kV doc pm an cdv ct), osl⟩) (hcd : PySem.W.codeIn K cdv qual = true) (S : FnScope N ps scope) (cnt : ∀ vs H Q E, sp vs H Q E → vs.length = ps.length)
    (hbody : ∀ (A : Around) (out : List PySem.Env) (s : Shared) (H : Hp) (vs : List V) (Q : VK) (E : XK), Room lev (A.deeper (envOfC qual scope s.heap.objs.size f cdv)) → A.guards = some [] → sp vs H Q E →
      ∃ t, PSs (cxOf (L2.CX P w) P w K mg base N qual scope f cdv A out s H E) body t ∧ t { nx := fun _ H' => Q .non H', rt := Q } (L2.start N vs) H) :
    FnG P w K mg base (lev + 1) f (PySem.W.fnOf name qual params body scope dV kV doc pm an cdv ct) ps sp := by
  refine ⟨cnt, fun A out s H args us vs Q E room gd e0 bt rv want => ?_⟩
  have inK : K.In s.heap := e0.mod.kin.keeps fun b o z => (e0.bs b o z).1
  have noL : s.heap.NoLimit := e0.mod.nolimit.keeps fun b o z => (e0.bs b o z).1
  have kinds : ∀ y ∈ ps.zip us, scope.names.lookup y.1 = some .local ∨ (scope.names.lookup y.1 = some .cell ∧ ((cellsFrom (s.heap.objs.size + 1) scope.names []).lookup y.1).isSome = true) := by
    rintro ⟨n, v⟩ hy
    refine (S.par n (List.of_mem_zip hy).1).imp id fun q => ⟨q, PySem.W.cellsFrom_some _ _ _ (.inl q)⟩
  refine codeAny_call_function room.depth (inK _ _ lk) rfl S.co S.gen rfl (PySem.W.codeRec_of inK hcd) (bt _ _ _ _ ?_)
  refine wpAny_newFunctionEnv_cells S.kind kinds fun env0 he s1 ic => ?_
  subst he
  refine ⟨noL.keeps ic.toInCall.keep, codeAny_func ?_⟩
  obtain ⟨t, ht, hq⟩ := hbody A out s H vs Q E (room.deeper _) gd want
  have J0 := inv_start (CX := L2.CX P w) (E := E) S room.hd e0 (cnt _ _ _ _ want) rv ic
  refine wpAny_mono (ht.run [] s1 (L2.start N vs) H _ J0 hq) (fun fl s2 hs => ?_) fun e s2 hs => hs
  have done : ∀ {σ2 : St} {H2 : Hp} {v : V} {u : Value}, Inv (cxOf (L2.CX P w) P w K mg base N qual scope f cdv A out s H E) [] σ2 H2 s2 → RelV v u → Q v H2 → CE out P w H s Q u s2 :=
    fun J r q => ⟨_, _, J.os, J.bare, J.base, J.hok, r, q⟩
  match fl, hs with
  | .ret u, ⟨v, σ2, H2, J, r, q⟩ => exact done J r q
  | .next, ⟨σ2, H2, J, q⟩ => exact done (v := V.non) (u := Value.none) J rfl q
  | .brk, ⟨_, _, _, q⟩ => exact False.elim q
  | .cont, ⟨_, _, _, q⟩ => exact False.elim q
/-- a def by its body's action -/
theorem fn_sm {G : Gx} {call : CallF} {k lev : Nat} {f : Addr} {name qual : Str} {params : Arguments} {body : List Stmt} {scope : Scope} {dV kV doc pm cdv ct oc : Value} {an od : Option Addr} {osl : Array (Option Value)} {N ps : List Str} {sm : SM}
    (lk : K.lookup f = some ⟨oc, od, .func (PySem.W.fnOf name qual params body scope dV kV doc pm an cdv ct), osl⟩) (hcd : PySem.W.codeIn K cdv qual = true) (S : FnScope N ps scope)
    (hc : ∀ ds m, call k ds m = fin (sm (startE N.length ds) m))
    (hbody : ∀ (A : Around) (out : List PySem.Env) (s : Shared) (H : Hp) (E : XK), Room lev (A.deeper (envOfC qual scope s.heap.objs.size f cdv)) → A.guards = some [] →
      PSs (cxOf (L2.CX P w) P w K mg base N qual scope f cdv A out s H E) body (RdS G (fun c d _ H' => E c d H') sm)) :
    FnG P w K mg base (lev + 1) f (PySem.W.fnOf name qual params body scope dV kV doc pm an cdv ct) ps (spG G call k ps.length) := by
  refine fn_ofG lk hcd S (fun _ _ _ _ h => h.1) fun A out s H vs Q E room gd ⟨_, ds, μ, t, ss, rds, kk⟩ => ⟨_, hbody A out s H E room gd, startE N.length ds, μ, t, se_start rds, ss, ?_⟩
  rw [hc] at kk
  cases e : sm (startE N.length ds) μ with
  | nx r m => rw [e] at kk; exact fun s' H' t' ex _ ss' => kk .non H' t' ex ss' .non
  | ret d m => rw [e] at kk; exact kk
  | bk r m => rw [e] at kk; exact kk.elim
  | ct r m => rw [e] at kk; exact kk.elim
  | exc k fs r m => rw [e] at kk; exact fun cls da s' H' t' ex _ ss' rx => kk cls da H' t' ex ss' rx
  | stuck => rw [e] at kk; exact kk.elim
/-- what a body of the text lets out, its caller takes -/
theorem takes_cx {N : List Str} {qual : Str} {scope : Scope} {f : Addr} {cdv : Value} {A : Around} {out : List PySem.Env} {s : Shared} {H : Hp} {E : XK} (hf : (envOfC qual scope s.heap.objs.size f cdv).frame = some (envOfC qual scope s.heap.objs.size f cdv).locals) :
    Takes (cxOf (L2.CX P w) P w K mg base N qual scope f cdv A out s H E) (fun c d _ H' => E c d H') := takes_of (X := cxOf (L2.CX P w) P w K mg base N qual scope f cdv A out s H E) rfl hf rfl rfl
theorem owns_cx {N : List Str} {qual : Str} {scope : Scope} {f : Addr} {cdv : Value} {A : Around} {out : List PySem.Env} {s : Shared} {H : Hp} {E : XK} :
    PassesOwn (model (cxOf (L2.CX P w) P w K mg base N qual scope f cdv A out s H E).prog (cxOf (L2.CX P w) P w K mg base N qual scope f cdv A out s H E).w) (cxOf (L2.CX P w) P w K mg base N qual scope f cdv A out s H E).A (cxOf (L2.CX P w) P w K mg base N qual scope f cdv A out s H E).env (cxOf (L2.CX P w) P w K mg base N qual scope f cdv A out s H E).xe := passes_of rfl
end
end DI

set_option Elab.async false
set_option linter.all false
set_option maxRecDepth 100000
set_option maxHeartbeats 4000000
/-! DIK: a translator from the text's trees to actions. -/
namespace DI
open PySem PySem.Spec L2
open PyProof.Rows hiding St

structure TC where
  N : List Str
  gl : List (Str × D)
  no : List Str
  call : CallF
  sg : List (Nat × Nat × List D)
  ml : List (Nat × Nat)
structure SC where
  sc : Scope
  ok : Str → Bool
def SC.kind (S : SC) (x : Str) : Option NameKind := S.sc.names.lookup x
def visB (k : Option NameKind) : Bool := match k with
  | some .local => true
  | some .cell => true
  | some .free => true
  | _ => false
def locB (k : Option NameKind) : Bool := match k with
  | some .local => true
  | some .cell => true
  | _ => false
def gloB (k : Option NameKind) : Bool := match k with
  | some .globalImplicit => true
  | _ => false
def isLocal (k : Option NameKind) : Bool := match k with
  | some .local => true
  | _ => false
def posIn : List Str → Str → Nat → Option Nat
  | [], _, _ => none
  | y :: ys, x, i => if x = y then some i else posIn ys x (i + 1)
def ixOf (N : List Str) (x : Str) : Option Nat := posIn N x 0
theorem posIn_ok {x : Str} : ∀ {N : List Str} {i j : Nat}, posIn N x i = some j → i ≤ j ∧ N[j - i]? = some x
  | [], _, _, h => by cases h
  | y :: ys, i, j, h => by
    unfold posIn at h
    split at h
    · rename_i e; subst e; cases h; simp
    · obtain ⟨h1, h2⟩ := posIn_ok h
      refine ⟨by omega, ?_⟩
      have : j - i = (j - (i + 1)) + 1 := by omega
      rw [this, List.getElem?_cons_succ]; exact h2
theorem ixOf_ok {N : List Str} {x : Str} {j : Nat} (h : ixOf N x = some j) : N[j]? = some x := by
  have := (posIn_ok h).2; simpa using this
def oddN (x : Str) : Bool := decide (x = "__debug__") || decide (x = "__classdict__") || decide (x = "__name__")
theorem oddN_ok {x : Str} (h : oddN x = false) : (x == ("__debug__" : Str)) = false ∧ (x == ("__classdict__" : Str)) = false ∧ x ≠ "__name__" := by
  simp only [oddN, Bool.or_eq_false_iff, decide_eq_false_iff_not] at h
  exact ⟨by simpa using h.1.1, by simpa using h.1.2, h.2⟩

/-! ### built-ins -/
structure BL where
  fn : Bool
  id : String
  f : ON
def bltO (x : Str) : Option BL :=
  if x = "len" then some ⟨true, "len", lenO⟩ else if x = "isinstance" then some ⟨true, "isinstance", isiO⟩ else if x = "repr" then some ⟨true, "repr", reprO⟩
  else if x = "tuple" then some ⟨false, "tuple", tupleO⟩ else if x = "list" then some ⟨false, "list", listO⟩ else if x = "str" then some ⟨false, "str", strO⟩ else if x = "int" then some ⟨false, "int", intO⟩
  else if x = "any" then some ⟨true, "any", anyO⟩ else if x = "all" then some ⟨true, "all", allO⟩ else if x = "sum" then some ⟨true, "sum", sumO⟩
  else if x = "abs" then some ⟨true, "abs", absO⟩ else if x = "max" then some ⟨true, "max", maxO⟩ else if x = "min" then some ⟨true, "min", minO⟩ else none
def tyN (x : Str) : Option String :=
  if x = "int" then some "int" else if x = "str" then some "str" else if x = "bool" then some "bool" else if x = "tuple" then some "tuple" else if x = "list" then some "list" else if x = "dict" then some "dict" else none

/-! ### the translator -/
structure Tr where
  ev : SC → Expr → Option (M D)
  evT : SC → Expr → Option (M Bool)
def notStar : Expr → Bool
  | .Starred .. => false
  | _ => true
def constE : Const → Option (M D)
  | .none => some (mC .non)
  | .bool b => some (mC (.bl b))
  | .int i => some (mC (.int i))
  | .str x => some (mC (.str x))
  | _ => none
def nmE (T : TC) (S : SC) (x : Str) : Option (M D) :=
  if oddN x then none else if visB (S.kind x) then (ixOf T.N x).map mVar
  else if gloB (S.kind x) then (match T.gl.lookup x with
    | some d => some (mC d)
    | none => if x ∈ T.no then (tyN x).map fun n => mC (.ty n) else none)
  else none
def evsL (t : Tr) (S : SC) : List Expr → Option (M (List D))
  | [] => some mNil
  | e :: es => if notStar e then (t.ev S e).bind fun p => (evsL t S es).bind fun q => some (mCons p q) else none
def boolE (t : Tr) (S : SC) (op : BoolOp) : List Expr → Option (M D)
  | [] => none
  | [a] => t.ev S a
  | a :: b :: r => (t.ev S a).bind fun p => (boolE t S op (b :: r)).bind fun q => some (match op with
    | .And => mAndV p q
    | .Or => mOrV p q)
def boolT (t : Tr) (S : SC) (op : BoolOp) : List Expr → Option (M Bool)
  | [] => none
  | [a] => t.evT S a
  | a :: b :: r => (t.evT S a).bind fun p => (boolT t S op (b :: r)).bind fun q => some (match op with
    | .And => mAndT p q
    | .Or => mOrT p q)
def cmpE (t : Tr) (S : SC) (a : Expr) : List CmpOp → List Expr → Option (M D)
  | [o], [b] => if behindInMarks o b then none else (t.ev S a).bind fun p => (t.ev S b).bind fun q => some (mAp2 (cmpS o) p q)
  | [o1, o2], [b, c] => if lastMarks [o1, o2] [b, c] then none else (t.ev S a).bind fun p => (t.ev S b).bind fun q => (t.ev S c).bind fun r => some (mChain o1 o2 p q r)
  | _, _ => none
def cmpTst (t : Tr) (S : SC) (a : Expr) : List CmpOp → List Expr → Option (M Bool)
  | [o], [b] => if behindInMarks o b then none else (t.ev S a).bind fun p => (t.ev S b).bind fun q => some (mCmpT o p q)
  | _, _ => none
def partE (t : Tr) (S : SC) : Option Expr → Option (M (Option Int))
  | none => some mNoP
  | some e => (t.ev S e).map mPart
def plainIxB : Expr → Bool
  | .Slice .. => false
  | _ => true
def subE (t : Tr) (S : SC) (a b : Expr) : Option (M D) := match b with
  | .Slice lo hi none _ => (t.ev S a).bind fun p => (partE t S lo).bind fun q => (partE t S hi).bind fun r => some (mSl p q r)
  | _ => if plainIxB b then (t.ev S a).bind fun p => (t.ev S b).bind fun q => some (mAp2 ixO p q) else none
def plainBase : Expr → Bool
  | .Call .. => false
  | _ => true
def callN (T : TC) (t : Tr) (S : SC) (x : Str) (es : List Expr) : Option (M D) :=
  if oddN x then none else if gloB (S.kind x) then (match T.gl.lookup x with
    | some (.fn k) => (match T.sg.lookup k with
      | some (np, dfl) => if es.length ≤ np ∧ np ≤ es.length + dfl.length then (evsL t S es).map fun q => mCall T.call k q (dfl.drop (es.length + dfl.length - np)) else none
      | none => none)
    | some _ => none
    | none => if x ∈ T.no then (match es with
      | [] => none
      | _ :: _ => (bltO x).bind fun b => (evsL t S es).map fun q => mApN b.f q) else none) else none
def callE (T : TC) (t : Tr) (S : SC) (f : Expr) (es : List Expr) (ks : List Keyword) (cp : Pos) : Option (M D) := match f, ks with
  | .Name x _, [] => callN T t S x es
  | .Attribute o a ap, [] => if a = "append" then (match es with
    | [e] => if plainBase o && notStar e && (ap.endLine == cp.line) then (t.ev S o).bind fun p => (t.ev S e).bind fun q => some (mApp p (mCons q mNil)) else none
    | _ => none) else none
  | _, _ => none
mutual
def tgP (T : TC) (S : SC) : Expr → Option P
  | .Name x _ => if locB (S.kind x) && (S.ok x || isLocal (S.kind x)) then (ixOf T.N x).map .nm else none
  | .Tuple es _ _ => (tgPs T S es).map .tp
  | _ => none
def tgPs (T : TC) (S : SC) : List Expr → Option (List P)
  | [] => some []
  | e :: es => if notStar e then (tgP T S e).bind fun p => (tgPs T S es).bind fun ps => some (p :: ps) else none
end
def notSet : Expr → Bool
  | .Set .. => false
  | _ => true
def itE (T : TC) (t : Tr) (S : SC) (e : Expr) : Option (M ItD) := match e with
  | .Call (.Name x _) es [] _ => if x = "range" then (if gloB (S.kind x) && decide (x ∈ T.no) then (match es with
      | [_] => (evsL t S es).map mItR
      | [_, _] => (evsL t S es).map mItR
      | _ => none) else none)
    else (t.ev S e).map mItV
  | _ => if notSet e then (t.ev S e).map mItV else none
def SC.blk (S : SC) (sc : Scope) : SC := ⟨relS sc S.sc, fun x => match sc.names.lookup x with
  | some .cell => true
  | _ => false⟩
def ownOf (N : List Str) (sc : Scope) : List (Str × Nat) := sc.names.filterMap fun y => match y.2 with
  | .local => (ixOf N y.1).map fun i => (y.1, i)
  | .cell => (ixOf N y.1).map fun i => (y.1, i)
  | _ => none
def ifsE (t : Tr) (S : SC) : List Expr → Option (M Bool)
  | [] => some mYes
  | [c] => t.evT S c
  | _ => none
noncomputable def lcE (T : TC) (t : Tr) (S : SC) (elt : Expr) (gs : List Comprehension) (sc : Scope) : Option (M D) := match gs with
  | [⟨tg, iter, ifs, 0⟩] =>
    if notSet iter && blkC T.N S.sc sc (ownOf T.N sc) then
      (itE T t S iter).bind fun mi => (tgP T (S.blk sc) tg).bind fun p => (ifsE t (S.blk sc) ifs).bind fun mc => (t.ev (S.blk sc) elt).bind fun me =>
        if (slotsP p).all fun i => decide (i ∈ (ownOf T.N sc).map (·.2)) then some (mLc mi ((ownOf T.N sc).map (·.2)) p mc me) else none
    else none
  | _ => none
noncomputable def stepE (T : TC) (t : Tr) (S : SC) (e : Expr) : Option (M D) := match e with
  | .Constant c _ _ => constE c
  | .Name x _ => nmE T S x
  | .BinOp a op b _ => (t.ev S a).bind fun p => (t.ev S b).bind fun q => some (mAp2 (binS op) p q)
  | .UnaryOp .Not a _ => (t.ev S a).map mNotV
  | .UnaryOp op a _ => (t.ev S a).map (mAp1 (unS op))
  | .Compare a ops bs _ => cmpE t S a ops bs
  | .BoolOp op vs _ => boolE t S op vs
  | .IfExp c a b _ => (t.evT S c).bind fun p => (t.ev S a).bind fun q => (t.ev S b).bind fun r => some (mIf p q r)
  | .Tuple es _ _ => (evsL t S es).map (mApN tupO)
  | .List es p => (evsL t S es).map (mApN (if (p.line, p.col) ∈ T.ml then newL else lstO))
  | .Subscript a b _ => subE t S a b
  | .Call f es ks p => callE T t S f es ks p
  | .ListComp elt gs sc _ => lcE T t S elt gs sc
  | .Dict [] [] _ => some (mC (.dct []))
  | _ => none
def trulyB : Expr → Bool
  | .UnaryOp .Not _ _ => false
  | .BoolOp .. => false
  | .IfExp .. => false
  | .Compare .. => false
  | _ => true
def stepT (T : TC) (t : Tr) (S : SC) (e : Expr) : Option (M Bool) := match e with
  | .UnaryOp .Not a _ => (t.evT S a).map mNotT
  | .BoolOp op vs _ => boolT t S op vs
  | .Compare a ops bs _ => cmpTst t S a ops bs
  | _ => if trulyB e then (t.ev S e).map mTru else none
noncomputable def tr (T : TC) : Nat → Tr
  | 0 => ⟨fun _ _ => none, fun _ _ => none⟩
  | n + 1 => ⟨stepE T (tr T n), stepT T (tr T n)⟩

/-! ### statements -/
abbrev TrS := SC → List Stmt → Option SM
def isLc : Expr → Bool
  | .ListComp .. => true
  | .SetComp .. => true
  | .DictComp .. => true
  | _ => false
def isTupE : Expr → Bool
  | .Tuple .. => true
  | _ => false
def isSub : Expr → Bool
  | .Subscript .. => true
  | _ => false
def asgE (T : TC) (t : Tr) (S : SC) (tg e : Expr) : Option SM :=
  if isLc e then none else match tg with
  | .Name x p => if locB (S.kind x) && (S.ok x || isLocal (S.kind x)) then (ixOf T.N x).bind fun i => (t.ev S e).bind fun a => some (sAsg (.nm i) a) else none
  | .Tuple _ _ _ => if isTupE e then none else (tgP T S tg).bind fun p => (t.ev S e).bind fun a => some (sAsg p a)
  | .Subscript o i _ => if plainIxB i then (t.ev S o).bind fun p => (t.ev S i).bind fun q => (t.ev S e).bind fun a => some (sSetIx p q a) else none
  | _ => none
noncomputable def exOne (T : TC) (t : Tr) (u : TrS) (S : SC) (st : Stmt) : Option SM := match st with
  | .Expr e _ => if isLc e then none else (t.ev S e).map sDrop
  | .Return (some e) _ => (t.ev S e).map sRet
  | .Return none _ => some sRetN
  | .Pass _ => some sNx
  | .Break _ => some sBk
  | .Continue _ => some sCt
  | .If c a b _ => (t.evT S c).bind fun p => (u S a).bind fun q => (u S b).bind fun r => some (sIf p q r)
  | .Assign [tg] e _ => asgE T t S tg e
  | .For tg it body [] _ => if notSet it then (itE T t S it).bind fun mi => (tgP T S tg).bind fun p => (u S body).bind fun b => some (sFor mi p b) else none
  | _ => none
noncomputable def exList (T : TC) (t : Tr) (u : TrS) (S : SC) : List Stmt → Option SM
  | [] => some sNx
  | [a] => exOne T t u S a
  | a :: b :: r => (exOne T t u S a).bind fun p => (exList T t u S (b :: r)).bind fun q => some (sSeq p q)
noncomputable def trS (T : TC) (t : Tr) : Nat → TrS
  | 0 => fun _ _ => none
  | n + 1 => exList T t (trS T t n)
end DI

set_option Elab.async false
set_option linter.all false
set_option maxRecDepth 100000
set_option maxHeartbeats 4000000
/-! DIL: the translator is right. -/
namespace DI
open PySem PySem.Spec L2
open PyProof.Rows hiding St

/-- a def of the text that may be called from here -/
structure FnAt (G : Gx) (X : Cx) (call : CallF) (k np : Nat) (dfl : List D) : Prop where
  ex : ∃ (f : Addr) (fd : FuncData) (ps : List Str) (lev : Nat), G.fa k = some f ∧ PySem.W.keepIn X.K (.ref f) = true ∧ Room lev X.A ∧ FnG X.prog X.w X.K X.mg X.base lev f fd ps (spG G call k np) ∧
    ∀ j, j ≤ dfl.length → ∃ (ds : List Value) (ws : List V), Binds X.K fd ps ds ∧ Vals ws ds ∧ ∀ t H, RDs G t H (dfl.drop j) ws
/-- what the translator takes for granted of the place -/
structure CxOk (G : Gx) (T : TC) (S : SC) (W : WX) (X : Cx) : Prop where
  hN : X.N = T.N
  nd : T.N.Nodup
  sc : X.env.scope = S.sc
  fn : ∀ x, S.ok x = true → X.fn x = true
  hK : G.K = X.K
  calm : X.calm = true
  un : X.A.units + 100 < cLine
  gd : X.A.guards = some []
  gl : ∀ x d, T.gl.lookup x = some d → ∃ (v : V) (u : Value), X.mg x = some u ∧ RelV v u ∧ ∀ t H, RD G t H d v
  no : ∀ x, x ∈ T.no → X.mg x = none
  fns : ∀ k np dfl, T.sg.lookup k = some (np, dfl) → FnAt G X T.call k np dfl
  tk : Takes X W
theorem CxOk.blk {G : Gx} {T : TC} {S : SC} {W : WX} {X : Cx} (c : CxOk G T S W X) (s : Shared) (H : Hp) (scope : Scope) (C : Addr) (cl : List (Str × Addr)) (fp : List Addr) : CxOk G T (S.blk scope) W0 (X.blk s H scope (compEnvC scope cl C X.env) fp) := by
  refine ⟨c.hN, c.nd, ?_, fun x h => ?_, c.hK, c.calm, c.un, c.gd, c.gl, c.no, fun k np dfl h => ?_, fun u s' h => ?_⟩
  · show relS scope X.env.scope = relS scope S.sc
    rw [c.sc]
  · show (scope.names.lookup x == some .cell) = true
    have h' : (match scope.names.lookup x with
      | some .cell => true
      | _ => false) = true := h
    split at h'
    · rename_i e; rw [e]; rfl
    · cases h'
  · obtain ⟨f, fd, ps, lev, h1, h2, h3, h4, h5⟩ := (c.fns k np dfl h).ex
    exact ⟨f, fd, ps, lev, h1, h2, h3, h4, h5⟩
  · obtain ⟨_, _, _, _, _, _, _, _, _, _, _, _, _, _, _, _, w⟩ := h
    exact w.elim

structure TrOk (G : Gx) (T : TC) (t : Tr) : Prop where
  ev : ∀ S e m, t.ev S e = some m → ∀ W X, CxOk G T S W X → PE X e (RdE G W m)
  evT : ∀ S e m, t.evT S e = some m → ∀ W X, CxOk G T S W X → PT X e (RdT G W m)

section
variable {G : Gx} {T : TC} {S : SC} {W : WX} {X : Cx} {t : Tr}
theorem kind_vis {x : Str} (c : CxOk G T S W X) (h : visB (S.kind x) = true) : Vis X.env.scope x := by
  unfold Vis; rw [c.sc]
  unfold SC.kind at h
  revert h
  cases S.sc.names.lookup x with
  | none => intro h; cases h
  | some k => cases k <;> intro h <;> first | exact .inl rfl | exact .inr (.inl rfl) | exact .inr (.inr rfl) | cases h
theorem kind_loc {x : Str} (c : CxOk G T S W X) (h : locB (S.kind x) = true) : L2.Loc X.env.scope x := by
  unfold L2.Loc; rw [c.sc]
  unfold SC.kind at h
  revert h
  cases S.sc.names.lookup x with
  | none => intro h; cases h
  | some k => cases k <;> intro h <;> first | exact .inl rfl | exact .inr rfl | cases h
theorem kind_ok {x : Str} (c : CxOk G T S W X) (h : (S.ok x || isLocal (S.kind x)) = true) : X.fn x = true ∨ X.env.scope.names.lookup x = some .local := by
  rcases Bool.or_eq_true _ _ ▸ h with h | h
  · exact .inl (c.fn x h)
  · rw [c.sc]
    unfold SC.kind isLocal at h
    revert h
    cases S.sc.names.lookup x with
    | none => intro h; cases h
    | some k => cases k <;> intro h <;> first | exact .inr rfl | cases h
theorem kind_gl {x : Str} (c : CxOk G T S W X) (h : gloB (S.kind x) = true) : Gl X x := by
  show X.env.scope.names.lookup x = _
  rw [c.sc]
  unfold SC.kind gloB at h
  revert h
  cases S.sc.names.lookup x with
  | none => intro h; cases h
  | some k => cases k <;> intro h <;> first | rfl | cases h
theorem star_cons {e : Expr} {es : List Expr} {env : PySem.Env} (h : notStar e = true) : starEach (e :: es) env = (false, eval e env) :: starEach es env := by
  cases e <;> first | rfl | cases h
theorem asg_cons {e : Expr} {es : List Expr} {env : PySem.Env} (h : notStar e = true) : assignEach (e :: es) env = (false, assign e env) :: assignEach es env := by
  cases e <;> first | rfl | cases h
theorem star_none {env : PySem.Env} {cp : Pos} : ∀ {es : List Expr}, es.all notStar = true → (backTo cp (starEach es env)).any (·.1) = false
  | [], _ => rfl
  | e :: es, h => by
    rw [List.all_cons, Bool.and_eq_true] at h
    rw [star_cons h.1]
    show (false || (backTo cp (starEach es env)).any (·.1)) = false
    rw [star_none h.2]; rfl
theorem evsL_star : ∀ {es : List Expr} {m : M (List D)}, evsL t S es = some m → es.all notStar = true
  | [], _, _ => rfl
  | e :: es, m, h => by
    unfold evsL at h
    split at h
    · rename_i c
      simp only [Option.bind_eq_some_iff] at h
      obtain ⟨p, _, q, hq, _⟩ := h
      rw [List.all_cons, c, evsL_star hq]; rfl
    · cases h
theorem evsL_ok (tk : TrOk G T t) (c : CxOk G T S W X) : ∀ {es : List Expr} {m : M (List D)}, evsL t S es = some m → PA X es (RdA G W m)
  | [], m, h => by cases h; exact di_nil
  | e :: es, m, h => by
    unfold evsL at h
    split at h
    · rename_i hs
      simp only [Option.bind_eq_some_iff] at h
      obtain ⟨p, hp, q, hq, hm⟩ := h
      cases hm
      exact di_cons (tk.ev _ _ _ hp _ _ c) (evsL_ok tk c hq) (star_cons hs)
    · cases h
theorem evsL_len : ∀ {es : List Expr} {m : M (List D)}, evsL t S es = some m → ∀ r μ xs m1, m r μ = .ok xs m1 → xs.length = es.length
  | [], m, h, r, μ, xs, m1, e => by cases h; cases e; rfl
  | a :: es, m, h, r, μ, xs, m1, e => by
    unfold evsL at h
    split at h
    · simp only [Option.bind_eq_some_iff] at h
      obtain ⟨p, hp, q, hq, hm⟩ := h
      cases hm
      unfold mCons at e
      cases e1 : p r μ with
      | stuck => rw [e1] at e; cases e
      | exc _ _ _ => rw [e1] at e; cases e
      | ok x m2 =>
        rw [e1] at e
        simp only [R.bind] at e
        cases e2 : q r m2 with
        | stuck => rw [e2] at e; cases e
        | exc _ _ _ => rw [e2] at e; cases e
        | ok ys m3 =>
          rw [e2] at e
          simp only [R.bind] at e
          cases e
          rw [List.length_cons, List.length_cons, evsL_len hq _ _ _ _ e2]
    · cases h
theorem boolE_ok (tk : TrOk G T t) (c : CxOk G T S W X) {op : BoolOp} {pos : Pos} : ∀ {es : List Expr} {m : M D}, boolE t S op es = some m → PE X (.BoolOp op es pos) (RdE G W m)
  | [], _, h => by cases h
  | [a], m, h => di_one (tk.ev _ _ _ h _ _ c)
  | a :: b :: r, m, h => by
    unfold boolE at h
    simp only [Option.bind_eq_some_iff] at h
    obtain ⟨p, hp, q, hq, hm⟩ := h
    cases op with
    | And => cases hm; exact di_andV c.hK (tk.ev _ _ _ hp _ _ c) (boolE_ok tk c hq)
    | Or => cases hm; exact di_orV c.hK (tk.ev _ _ _ hp _ _ c) (boolE_ok tk c hq)
theorem boolT_ok (tk : TrOk G T t) (c : CxOk G T S W X) {op : BoolOp} {pos : Pos} : ∀ {es : List Expr} {m : M Bool}, boolT t S op es = some m → PW X (.BoolOp op es pos) (RdT G W m)
  | [], _, h => by cases h
  | [a], m, h => by
    cases op with
    | And => exact di_and1 (tk.evT _ _ _ h _ _ c)
    | Or => exact di_or1 (tk.evT _ _ _ h _ _ c)
  | a :: b :: r, m, h => by
    unfold boolT at h
    simp only [Option.bind_eq_some_iff] at h
    obtain ⟨p, hp, q, hq, hm⟩ := h
    cases op with
    | And => cases hm; exact di_andT (tk.evT _ _ _ hp _ _ c) (boolT_ok tk c hq)
    | Or => cases hm; exact di_orT (tk.evT _ _ _ hp _ _ c) (boolT_ok tk c hq)
theorem CxOk.u64 (c : CxOk G T S W X) : X.A.units + 64 < cLine := by have := c.un; omega
theorem cmpE_ok (tk : TrOk G T t) (c : CxOk G T S W X) {a : Expr} {ops : List CmpOp} {bs : List Expr} {pos : Pos} {m : M D} (h : cmpE t S a ops bs = some m) : PE X (.Compare a ops bs pos) (RdE G W m) := by
  unfold cmpE at h
  split at h
  · split at h
    · cases h
    · rename_i hm
      simp only [Option.bind_eq_some_iff] at h
      obtain ⟨p, hp, q, hq, e⟩ := h
      cases e
      exact di_cmp c.hK c.u64 (tk.ev _ _ _ hp _ _ c) (tk.ev _ _ _ hq _ _ c) (by simpa using hm)
  · split at h
    · cases h
    · rename_i hm
      simp only [Option.bind_eq_some_iff] at h
      obtain ⟨p, hp, q, hq, r, hr, e⟩ := h
      cases e
      exact di_chain c.hK c.u64 (tk.ev _ _ _ hp _ _ c) (tk.ev _ _ _ hq _ _ c) (tk.ev _ _ _ hr _ _ c) (by simpa using hm)
  · cases h
theorem cmpT_ok (tk : TrOk G T t) (c : CxOk G T S W X) {a : Expr} {ops : List CmpOp} {bs : List Expr} {pos : Pos} {m : M Bool} (h : cmpTst t S a ops bs = some m) : PT X (.Compare a ops bs pos) (RdT G W m) := by
  unfold cmpTst at h
  split at h
  · split at h
    · cases h
    · rename_i hm
      simp only [Option.bind_eq_some_iff] at h
      obtain ⟨p, hp, q, hq, e⟩ := h
      cases e
      exact di_cmpT c.hK c.u64 (tk.ev _ _ _ hp _ _ c) (tk.ev _ _ _ hq _ _ c) (by simpa using hm)
  · cases h
theorem part_ok (tk : TrOk G T t) (c : CxOk G T S W X) {o : Option Expr} {m : M (Option Int)} (h : partE t S o = some m) : PO X o (Rd G W (fun _ _ (o p : Option Int) => p = o) m) := by
  unfold partE at h
  split at h
  · cases h; exact di_nop
  · obtain ⟨p, hp, e⟩ := Option.map_eq_some_iff.mp h
    subst e
    exact di_part (tk.ev _ _ _ hp _ _ c)
theorem plain_ok {b : Expr} (h : plainIxB b = true) : PlainIx b := by
  intro o i
  cases b <;> first | rfl | cases h
theorem sub_ok (tk : TrOk G T t) (c : CxOk G T S W X) {a b : Expr} {pos : Pos} {m : M D} (h : subE t S a b = some m) : PE X (.Subscript a b pos) (RdE G W m) := by
  unfold subE at h
  split at h
  · simp only [Option.bind_eq_some_iff] at h
    obtain ⟨p, hp, q, hq, r, hr, e⟩ := h
    cases e
    exact di_sl c.hK (tk.ev _ _ _ hp _ _ c) (part_ok tk c hq) (part_ok tk c hr)
  · split at h
    · rename_i hb
      simp only [Option.bind_eq_some_iff] at h
      obtain ⟨p, hp, q, hq, e⟩ := h
      cases e
      exact di_ix c.hK (tk.ev _ _ _ hp _ _ c) (tk.ev _ _ _ hq _ _ c) (plain_ok hb)
    · cases h
theorem const_ok {k : Const} {j : Nat} {pos : Pos} {m : M D} (h : constE k = some m) : PE X (.Constant k j pos) (RdE G W m) := by
  unfold constE at h
  split at h <;> first
    | (cases h; exact di_c pe_non fun _ _ => .non)
    | (cases h; exact di_c pe_bl fun _ _ => .bl _)
    | (cases h; exact di_c pe_int fun _ _ => .int _)
    | (cases h; exact di_c pe_str fun _ _ => .str _)
    | cases h
theorem tyN_ok {x : Str} {n : String} (h : tyN x = some n) : bootBuiltins x = some (.type n) := by
  unfold tyN at h
  by_cases e : x = "int"
  · rw [if_pos e] at h; cases h; rw [e]; rfl
  rw [if_neg e] at h
  by_cases e : x = "str"
  · rw [if_pos e] at h; cases h; rw [e]; rfl
  rw [if_neg e] at h
  by_cases e : x = "bool"
  · rw [if_pos e] at h; cases h; rw [e]; rfl
  rw [if_neg e] at h
  by_cases e : x = "tuple"
  · rw [if_pos e] at h; cases h; rw [e]; rfl
  rw [if_neg e] at h
  by_cases e : x = "list"
  · rw [if_pos e] at h; cases h; rw [e]; rfl
  rw [if_neg e] at h
  by_cases e : x = "dict"
  · rw [if_pos e] at h; cases h; rw [e]; rfl
  rw [if_neg e] at h
  cases h
theorem nm_ok (c : CxOk G T S W X) {x : Str} {pos : Pos} {m : M D} (h : nmE T S x = some m) : PE X (.Name x pos) (RdE G W m) := by
  unfold nmE at h
  split at h
  · cases h
  · rename_i ho
    obtain ⟨o1, o2, o3⟩ := oddN_ok (by simpa using ho)
    split at h
    · rename_i hv
      obtain ⟨i, hi, e⟩ := Option.map_eq_some_iff.mp h
      subst e
      exact di_var (by rw [c.hN]; exact ixOf_ok hi) (kind_vis c hv) o1 o2
    · split at h
      · rename_i hg
        split at h
        · rename_i d hd
          cases h
          obtain ⟨v, u, hm, rv, rd⟩ := c.gl _ _ hd
          exact di_c (pe_glob (kind_gl c hg) hm rv o1) rd
        · split at h
          · rename_i hn
            obtain ⟨n, hy, e⟩ := Option.map_eq_some_iff.mp h
            subst e
            exact di_c (pe_bltn (v := .ty n) (kind_gl c hg) (c.no _ hn) (tyN_ok hy) rfl o3 o1) fun _ _ => .ty _
          · cases h
      · cases h
theorem blt_ok (c : CxOk G T S W X) {x : Str} {b : BL} (h : bltO x = some b) : (b.fn = true ∧ bootBuiltins x = some (.builtin b.id) ∧ CallR X (.builtin b.id) (rON G b.f)) ∨ (b.fn = false ∧ bootBuiltins x = some (.type b.id) ∧ CallR X (.type b.id) (rON G b.f)) := by
  unfold bltO at h
  by_cases e : x = "len"
  · rw [if_pos e] at h; cases h; rw [e]; exact .inl ⟨rfl, rfl, call_len_di c.hK⟩
  rw [if_neg e] at h
  by_cases e : x = "isinstance"
  · rw [if_pos e] at h; cases h; rw [e]; exact .inl ⟨rfl, rfl, call_isi_di c.hK⟩
  rw [if_neg e] at h
  by_cases e : x = "repr"
  · rw [if_pos e] at h; cases h; rw [e]; exact .inl ⟨rfl, rfl, call_repr_di c.hK c.gd c.un⟩
  rw [if_neg e] at h
  by_cases e : x = "tuple"
  · rw [if_pos e] at h; cases h; rw [e]; exact .inr ⟨rfl, rfl, call_tuple_di c.hK⟩
  rw [if_neg e] at h
  by_cases e : x = "list"
  · rw [if_pos e] at h; cases h; rw [e]; exact .inr ⟨rfl, rfl, call_list_di c.hK⟩
  rw [if_neg e] at h
  by_cases e : x = "str"
  · rw [if_pos e] at h; cases h; rw [e]; exact .inr ⟨rfl, rfl, call_str_di⟩
  rw [if_neg e] at h
  by_cases e : x = "int"
  · rw [if_pos e] at h; cases h; rw [e]; exact .inr ⟨rfl, rfl, call_int_di⟩
  rw [if_neg e] at h
  by_cases e : x = "any"
  · rw [if_pos e] at h; cases h; rw [e]; exact .inl ⟨rfl, rfl, call_any_di c.calm⟩
  rw [if_neg e] at h
  by_cases e : x = "all"
  · rw [if_pos e] at h; cases h; rw [e]; exact .inl ⟨rfl, rfl, call_all_di c.calm⟩
  rw [if_neg e] at h
  by_cases e : x = "sum"
  · rw [if_pos e] at h; cases h; rw [e]; exact .inl ⟨rfl, rfl, call_sum_di c.calm⟩
  rw [if_neg e] at h
  by_cases e : x = "abs"
  · rw [if_pos e] at h; cases h; rw [e]; exact .inl ⟨rfl, rfl, call_abs_di⟩
  rw [if_neg e] at h
  by_cases e : x = "max"
  · rw [if_pos e] at h; cases h; rw [e]; exact .inl ⟨rfl, rfl, call_max_di c.calm⟩
  rw [if_neg e] at h
  by_cases e : x = "min"
  · rw [if_pos e] at h; cases h; rw [e]; exact .inl ⟨rfl, rfl, call_min_di c.calm⟩
  rw [if_neg e] at h
  cases h
theorem callN_ok (tk : TrOk G T t) (c : CxOk G T S W X) {x : Str} {es : List Expr} {p pos : Pos} {m : M D} (h : callN T t S x es = some m) : PE X (.Call (.Name x p) es [] pos) (RdE G W m) := by
  unfold callN at h
  split at h
  · cases h
  rename_i ho
  obtain ⟨o1, o2, o3⟩ := oddN_ok (by simpa using ho)
  split at h
  rotate_left
  · cases h
  rename_i hg
  split at h
  · rename_i k hk
    split at h
    rotate_left
    · cases h
    rename_i np dfl hs
    split at h
    rotate_left
    · cases h
    rename_i hl
    obtain ⟨q, hq, e⟩ := Option.map_eq_some_iff.mp h
    subst e
    obtain ⟨v, u, hm, rv, rd⟩ := c.gl _ _ hk
    obtain ⟨f, fd, ps, lev, h1, h2, h3, h4, h5⟩ := (c.fns _ _ _ hs).ex
    obtain ⟨ds, ws, hb, hd, hw⟩ := h5 (es.length + dfl.length - np) (by omega)
    have hv : v = .ref f := by
      have z := rd [] (fun _ => none)
      cases z with
      | fn z => rw [h1] at z; cases z; rfl
    subst hv
    obtain rfl : u = Value.ref f := rv
    have ha := evsL_ok tk c hq
    have hln := evsL_len hq
    have hst := evsL_star hq
    have hdl : (dfl.drop (es.length + dfl.length - np)).length = np - es.length := by rw [List.length_drop]; omega
    cases es with
    | nil =>
      cases hq
      exact di_call0 h4 h3 c.gd (kind_gl c hg) hm h2 hb hd c.tk hw (by rw [hdl, List.length_nil]; omega) o1
    | cons e es =>
      rw [List.all_cons, Bool.and_eq_true] at hst
      exact di_call h4 h3 c.gd (kind_gl c hg) hm h2 hb hd c.tk hw ha (fun r μ xs m1 z => by rw [hln _ _ _ _ z, hdl]; omega) o1 (star_cons hst.1) (star_none hst.2)
  · cases h
  · split at h
    rotate_left
    · cases h
    rename_i hn
    split at h
    · cases h
    · rename_i e es
      obtain ⟨b, hb, h⟩ := Option.bind_eq_some_iff.mp h
      obtain ⟨q, hq, e2⟩ := Option.map_eq_some_iff.mp h
      subst e2
      have ha := evsL_ok tk c hq
      have hst := evsL_star hq
      rw [List.all_cons, Bool.and_eq_true] at hst
      rcases blt_ok c hb with ⟨_, z1, z2⟩ | ⟨_, z1, z2⟩
      · exact di_callB z2 (kind_gl c hg) (c.no _ hn) z1 ha o3 o1 (star_cons hst.1) (star_none hst.2)
      · exact di_callTy z2 (kind_gl c hg) (c.no _ hn) z1 ha o3 o1 (star_cons hst.1) (star_none hst.2)
theorem base_ok {o : Expr} {a : Str} {env : PySem.Env} {w : Sem Value} (h : plainBase o = true) : attributeBase o a env w = w := by
  cases o <;> first | rfl | cases h
theorem call_ok (tk : TrOk G T t) (c : CxOk G T S W X) {f : Expr} {es : List Expr} {ks : List Keyword} {pos : Pos} {m : M D} (h : callE T t S f es ks pos = some m) : PE X (.Call f es ks pos) (RdE G W m) := by
  unfold callE at h
  split at h
  · exact callN_ok tk c h
  · split at h
    · rename_i e; subst e
      split at h
      · split at h
        · rename_i hc
          simp only [Bool.and_eq_true] at hc
          simp only [Option.bind_eq_some_iff] at h
          obtain ⟨p, hp, q, hq, e⟩ := h
          cases e
          have hs := star_cons (es := []) (env := X.env) hc.1.2
          exact di_app (tk.ev _ _ _ hp _ _ c) (di_cons (tk.ev _ _ _ hq _ _ c) di_nil hs) (base_ok hc.1.1) (by rw [hs]; rfl) hc.2 hs rfl
        · cases h
      · cases h
    · cases h
  · cases h
mutual
theorem tgP_ok (c : CxOk G T S W X) : ∀ {e : Expr} {p : P}, tgP T S e = some p → PG X e (RdG G p) := fun {e p} h => by
  match e, h with
  | .Name x _, h =>
    unfold tgP at h
    split at h
    · rename_i hc
      rw [Bool.and_eq_true] at hc
      obtain ⟨i, hi, e⟩ := Option.map_eq_some_iff.mp h
      subst e
      exact di_gn (by rw [c.hN]; exact c.nd) (by rw [c.hN]; exact ixOf_ok hi) (kind_loc c hc.1) (kind_ok c hc.2)
    · cases h
  | .Tuple es _ _, h =>
    unfold tgP at h
    obtain ⟨ps, hps, e⟩ := Option.map_eq_some_iff.mp h
    subst e
    obtain ⟨h1, h2, h3⟩ := tgPs_ok c hps
    exact di_gtup c.hK c.calm h1 h2 h3
theorem tgPs_ok (c : CxOk G T S W X) : ∀ {es : List Expr} {ps : List P}, tgPs T S es = some ps → PGs X es (RdGs G ps) ∧ (assignEach es X.env).length = ps.length ∧ (assignEach es X.env).findIdx? (·.1) = none := fun {es ps} h => by
  match es, h with
  | [], h => unfold tgPs at h; cases h; exact ⟨di_gnil, rfl, rfl⟩
  | e :: es, h =>
    unfold tgPs at h
    split at h
    · rename_i hs
      simp only [Option.bind_eq_some_iff] at h
      obtain ⟨p, hp, q, hq, z⟩ := h
      cases z
      obtain ⟨h1, h2, h3⟩ := tgPs_ok c hq
      have a := asg_cons (es := es) (env := X.env) hs
      refine ⟨di_gcons (tgP_ok c hp) h1 (by rw [a]; rfl), by rw [a, List.length_cons, List.length_cons, h2], ?_⟩
      rw [a, List.findIdx?_cons, h3]; rfl
    · cases h
end
theorem it_ok (tk : TrOk G T t) (c : CxOk G T S W X) {tg e : Expr} {m : M ItD} (h : itE T t S e = some m) : PI X tg e (RdI G W m) := by
  unfold itE at h
  split at h
  · split at h
    · rename_i hx
      subst hx
      split at h
      · rename_i hg
        simp only [Bool.and_eq_true, decide_eq_true_eq] at hg
        split at h
        · rename_i a
          obtain ⟨q, hq, e⟩ := Option.map_eq_some_iff.mp h
          subst e
          have hst := evsL_star hq
          rw [List.all_cons, Bool.and_eq_true] at hst
          exact di_itR1 (kind_gl c hg.1) (c.no _ hg.2) (evsL_ok tk c hq) (star_cons hst.1) fun r μ xs m1 z => evsL_len hq _ _ _ _ z
        · rename_i a b
          obtain ⟨q, hq, e⟩ := Option.map_eq_some_iff.mp h
          subst e
          have hst := evsL_star hq
          simp only [List.all_cons, Bool.and_eq_true] at hst
          exact di_itR2 (kind_gl c hg.1) (c.no _ hg.2) (evsL_ok tk c hq) (by rw [star_cons hst.1, star_cons hst.2.1]; rfl) (star_cons hst.2.1) fun r μ xs m1 z => evsL_len hq _ _ _ _ z
        · cases h
      · cases h
    · obtain ⟨q, hq, e⟩ := Option.map_eq_some_iff.mp h
      subst e
      exact di_itV c.hK (tk.ev _ _ _ hq _ _ c)
  · split at h
    · obtain ⟨q, hq, e⟩ := Option.map_eq_some_iff.mp h
      subst e
      exact di_itV c.hK (tk.ev _ _ _ hq _ _ c)
    · cases h
theorem fold_ok {e : Expr} {env : PySem.Env} (h : notSet e = true) : ∀ x, foldedSetIterable e env x = pure x := by
  intro x
  cases e <;> first | rfl | cases h
theorem ifs_ok (tk : TrOk G T t) (c : CxOk G T S W0 X) {ifs : List Expr} {m : M Bool} (h : ifsE t S ifs = some m) : PTs X ifs (RdT G W0 m) := by
  unfold ifsE at h
  split at h
  · cases h; exact di_yes rfl
  · exact di_ifc (tk.evT _ _ _ h _ _ c)
  · cases h
theorem lc_ok (tk : TrOk G T t) (c : CxOk G T S W X) {elt : Expr} {gs : List Comprehension} {sc : Scope} {pos : Pos} {m : M D} (h : lcE T t S elt gs sc = some m) : PE X (.ListComp elt gs sc pos) (RdE G W m) := by
  unfold lcE at h
  split at h
  · split at h
    · rename_i hc
      rw [Bool.and_eq_true] at hc
      simp only [Option.bind_eq_some_iff] at h
      obtain ⟨mi, hi, p, hp, mc, hm, me, he, h⟩ := h
      split at h
      · rename_i hall
        cases h
        rw [List.all_eq_true] at hall
        exact di_lc c.calm (by rw [c.hN]; exact c.nd) (it_ok tk c hi) (by rw [c.hN, c.sc]; exact blkOk_by hc.2) (fun i hi => of_decide_eq_true (hall i hi)) (fun s H C cl fp => tgP_ok (c.blk s H sc C cl fp) hp) (fun s H C cl fp => ifs_ok tk (c.blk s H sc C cl fp) hm)
          (fun s H C cl fp => tk.ev _ _ _ he _ _ (c.blk s H sc C cl fp)) (fold_ok hc.1)
      · cases h
    · cases h
  · cases h
theorem dict0_ok {pos : Pos} : PE X (.Dict [] [] pos) (RdE G W (mC (.dct []))) := by
  refine PE.imp (pe_frzd pe_dnewK) fun s H Q ⟨r, μ, t, se, ss, k⟩ => ?_
  intro p hp
  refine ⟨p, [], rfl, upd_same, fun o => ?_⟩
  rw [show upd (upd H p (HO.dK [])) p (.frz o (.dK [])) = upd H p (.frz o (.dK [])) from by funext b; by_cases h : b = p <;> simp [upd, h]]
  exact k _ _ t (Stp.fresh hp) (ss.new hp) (.dct ⟨o, upd_same⟩ .nil)
theorem stepE_ok (tk : TrOk G T t) (c : CxOk G T S W X) {e : Expr} {m : M D} (h : stepE T t S e = some m) : PE X e (RdE G W m) := by
  unfold stepE at h
  split at h
  · exact const_ok h
  · exact nm_ok c h
  · simp only [Option.bind_eq_some_iff] at h
    obtain ⟨p, hp, q, hq, z⟩ := h
    cases z
    exact di_bin c.hK (tk.ev _ _ _ hp _ _ c) (tk.ev _ _ _ hq _ _ c)
  · obtain ⟨q, hq, z⟩ := Option.map_eq_some_iff.mp h
    subst z
    exact di_notV c.hK (tk.ev _ _ _ hq _ _ c)
  · obtain ⟨q, hq, z⟩ := Option.map_eq_some_iff.mp h
    subst z
    exact di_un (tk.ev _ _ _ hq _ _ c)
  · exact cmpE_ok tk c h
  · exact boolE_ok tk c h
  · simp only [Option.bind_eq_some_iff] at h
    obtain ⟨p, hp, q, hq, r, hr, z⟩ := h
    cases z
    exact di_if (tk.evT _ _ _ hp _ _ c) (tk.ev _ _ _ hq _ _ c) (tk.ev _ _ _ hr _ _ c)
  · obtain ⟨q, hq, z⟩ := Option.map_eq_some_iff.mp h
    subst z
    exact di_tup (evsL_ok tk c hq)
  · obtain ⟨q, hq, z⟩ := Option.map_eq_some_iff.mp h
    subst z
    split
    · exact di_newL (evsL_ok tk c hq)
    · exact di_lst (evsL_ok tk c hq)
  · exact sub_ok tk c h
  · exact call_ok tk c h
  · exact lc_ok tk c h
  · cases h; exact dict0_ok
  · cases h
theorem truly_ok {e : Expr} {env : PySem.Env} (h : trulyB e = true) : ∀ whole, isTrue e env whole = (do let v ← whole; standAt e.pos; holding [v] (truthy v)) := by
  intro w
  cases e with
  | UnaryOp op a p => cases op <;> first | rfl | cases h
  | _ => first | rfl | cases h
theorem stepT_ok (tk : TrOk G T t) (c : CxOk G T S W X) {e : Expr} {m : M Bool} (h : stepT T t S e = some m) : PT X e (RdT G W m) := by
  unfold stepT at h
  split at h
  · obtain ⟨q, hq, z⟩ := Option.map_eq_some_iff.mp h
    subst z
    exact di_notT (tk.evT _ _ _ hq _ _ c)
  · exact (boolT_ok tk c h).pt
  · exact cmpT_ok tk c h
  · split at h
    · rename_i ht
      obtain ⟨q, hq, z⟩ := Option.map_eq_some_iff.mp h
      subst z
      exact di_tru c.hK (tk.ev _ _ _ hq _ _ c) (truly_ok ht)
    · cases h
end
theorem tr_ok {G : Gx} {T : TC} : ∀ n : Nat, TrOk G T (tr T n)
  | 0 => ⟨fun _ _ m h => (by cases (show none = some m from h)), fun _ _ m h => (by cases (show none = some m from h))⟩
  | n + 1 => ⟨fun S e m h W X c => stepE_ok (tr_ok n) c h, fun S e m h W X c => stepT_ok (tr_ok n) c h⟩

/-! ### statements -/
structure SOk (G : Gx) (T : TC) (u : TrS) : Prop where
  ex : ∀ S b m, u S b = some m → ∀ W X, CxOk G T S W X → PassesOwn (model X.prog X.w) X.A X.env X.xe → PSs X b (RdS G W m)
section
variable {G : Gx} {T : TC} {S : SC} {W : WX} {X : Cx} {t : Tr} {u : TrS}
theorem swap_ok {e : Expr} {o : Option Expr} {l : Nat} {env : PySem.Env} (h : isLc e = false) : swapsWith e o l env = pure false := by
  cases e <;> first | rfl | cases h
theorem swapS_ok {tg e : Expr} {l : Nat} {env : PySem.Env} (h : isLc e = false) : swapsWithSole [tg] e l env = pure false := by
  unfold swapsWithSole; exact swap_ok h
theorem asgE_ok (tk : TrOk G T t) (c : CxOk G T S W X) {tg e : Expr} {pos : Pos} {m : SM} (h : asgE T t S tg e = some m) : PS X (.Assign [tg] e pos) (RdS G W m) := by
  unfold asgE at h
  split at h
  · cases h
  rename_i hl
  have hl : isLc e = false := by simpa using hl
  split at h
  · split at h
    · rename_i hc
      rw [Bool.and_eq_true] at hc
      simp only [Option.bind_eq_some_iff] at h
      obtain ⟨i, hi, a, ha, z⟩ := h
      cases z
      exact di_asgN (by rw [c.hN]; exact c.nd) (by rw [c.hN]; exact ixOf_ok hi) (kind_loc c hc.1) (tk.ev _ _ _ ha _ _ c) (swap_ok hl) (kind_ok c hc.2)
    · cases h
  · split at h
    · cases h
    · rename_i ht
      simp only [Option.bind_eq_some_iff] at h
      obtain ⟨p, hp, a, ha, z⟩ := h
      cases z
      exact di_asg (tk.ev _ _ _ ha _ _ c) (tgP_ok c hp) (swapS_ok hl) (by cases e <;> first | rfl | exact absurd rfl ht) rfl
  · split at h
    · rename_i hb
      simp only [Option.bind_eq_some_iff] at h
      obtain ⟨p, hp, q, hq, a, ha, z⟩ := h
      cases z
      exact di_setIx (tk.ev _ _ _ ha _ _ c) (tk.ev _ _ _ hp _ _ c) (tk.ev _ _ _ hq _ _ c) (fun v => by rename_i o i ps; cases i <;> first | rfl | cases hb) (swapS_ok hl) rfl
    · cases h
  · cases h
theorem exOne_ok (tk : TrOk G T t) (uk : SOk G T u) (c : CxOk G T S W X) (po : PassesOwn (model X.prog X.w) X.A X.env X.xe) {st : Stmt} {m : SM} (h : exOne T t u S st = some m) : PS X st (RdS G W m) := by
  unfold exOne at h
  split at h
  · split at h
    · cases h
    · rename_i hl
      obtain ⟨q, hq, z⟩ := Option.map_eq_some_iff.mp h
      subst z
      exact di_drop (tk.ev _ _ _ hq _ _ c) (swap_ok (by simpa using hl))
  · obtain ⟨q, hq, z⟩ := Option.map_eq_some_iff.mp h
    subst z
    exact di_ret (tk.ev _ _ _ hq _ _ c)
  · cases h; exact di_retN
  · cases h; exact di_pass
  · cases h; exact di_brk
  · cases h; exact di_cont
  · simp only [Option.bind_eq_some_iff] at h
    obtain ⟨p, hp, q, hq, r, hr, z⟩ := h
    cases z
    exact di_ifS (tk.evT _ _ _ hp _ _ c) (uk.ex _ _ _ hq _ _ c po) (uk.ex _ _ _ hr _ _ c po)
  · exact asgE_ok tk c h
  · split at h
    · rename_i hs
      simp only [Option.bind_eq_some_iff] at h
      obtain ⟨mi, hi, p, hp, b, hb, z⟩ := h
      cases z
      exact di_for po c.calm (it_ok tk c hi) (tgP_ok c hp) (uk.ex _ _ _ hb _ _ c po) (fold_ok hs)
    · cases h
  · cases h
theorem exList_ok (tk : TrOk G T t) (uk : SOk G T u) (c : CxOk G T S W X) (po : PassesOwn (model X.prog X.w) X.A X.env X.xe) : ∀ {b : List Stmt} {m : SM}, exList T t u S b = some m → PSs X b (RdS G W m)
  | [], m, h => by cases h; exact di_nxs
  | [a], m, h => di_one_s (exOne_ok tk uk c po h)
  | a :: b :: r, m, h => by
    unfold exList at h
    simp only [Option.bind_eq_some_iff] at h
    obtain ⟨p, hp, q, hq, z⟩ := h
    cases z
    exact di_seq (exOne_ok tk uk c po hp) (exList_ok tk uk c po hq)
end
theorem trS_ok {G : Gx} {T : TC} {t : Tr} (tk : TrOk G T t) : ∀ n : Nat, SOk G T (trS T t n)
  | 0 => ⟨fun _ _ m h => (by cases (show none = some m from h))⟩
  | n + 1 => ⟨fun S b m h W X c po => exList_ok tk (trS_ok tk n) c po h⟩
end DI

set_option Elab.async false
set_option linter.all false
set_option maxRecDepth 100000
set_option maxHeartbeats 4000000
/-! DIM: a text's defs at every depth; the law's end; what the head must tell. -/
namespace DI
open PySem PySem.Spec L2
open PyProof.Rows hiding St

/-- one def of the text -/
structure PD where
  np : Nat
  N : List Str
  dfl : List D
  ml : List (Nat × Nat)
  d : He.DefD
  bd : CallF → SM
noncomputable def callD (fs : List PD) : Nat → CallF
  | 0 => fun _ _ _ => .stuck
  | n + 1 => fun k ds m => match fs[k]? with
    | some f => fin (f.bd (callD fs n) (startE f.N.length ds) m)
    | none => .stuck
def sgOf : Nat → List PD → List (Nat × Nat × List D)
  | _, [] => []
  | i, p :: ps => (i, p.np, p.dfl) :: sgOf (i + 1) ps
theorem sgOf_at {k np : Nat} {dfl : List D} : ∀ {fs : List PD} {i : Nat}, (sgOf i fs).lookup k = some (np, dfl) → ∃ p, fs[k - i]? = some p ∧ i ≤ k ∧ p.np = np ∧ p.dfl = dfl
  | [], _, h => by cases h
  | p :: ps, i, h => by
    unfold sgOf at h
    rw [List.lookup_cons] at h
    cases hb : (k == i) with
    | true =>
      rw [hb] at h; cases h
      have e : k = i := by simpa using hb
      subst e
      exact ⟨p, by simp, Nat.le_refl _, rfl, rfl⟩
    | false =>
      rw [hb] at h
      obtain ⟨q, h1, h2, h3, h4⟩ := sgOf_at h
      refine ⟨q, ?_, by omega, h3, h4⟩
      have : k - i = (k - (i + 1)) + 1 := by omega
      rw [this, List.getElem?_cons_succ]; exact h1
def tcOf (fs : List PD) (gl : List (Str × D)) (no : List Str) (p : PD) (call : CallF) : TC := ⟨p.N, gl, no, call, sgOf 0 fs, p.ml⟩
/-- a def's body is that action -/
def TrD (fs : List PD) (gl : List (Str × D)) (no : List Str) (p : PD) : Prop := ∀ call, ∃ n1 n2, trS (tcOf fs gl no p call) (tr (tcOf fs gl no p call) n1) n2 ⟨p.d.scope, fun _ => true⟩ p.d.body = some (p.bd call)
/-- how a def stands behind the top -/
structure DefOk (G : Gx) (K : PySem.W.Frag) (p : PD) (f : Addr) : Prop where
  ex : ∃ (fd : FuncData) (ps : List Str) (dvs : List V), FunD K p.d.name p.d.qual p.d.params p.d.body p.d.scope dvs [] f fd ∧ FnScope p.N ps p.d.scope ∧ ps.length = p.np ∧
    ∀ j, j ≤ p.dfl.length → ∃ (ds : List Value) (ws : List V), Binds K fd ps ds ∧ Vals ws ds ∧ ∀ t H, RDs G t H (p.dfl.drop j) ws
section
variable {P : Program} {w : World} {K : PySem.W.Frag} {mg : Str → Option Value} {base : Heap} {G : Gx} {fs : List PD} {gl : List (Str × D)} {no : List Str}
theorem lvl (hG : G.K = K) (hgl : ∀ x d, gl.lookup x = some d → ∃ (v : V) (u : Value), mg x = some u ∧ RelV v u ∧ ∀ t H, RD G t H d v) (hno : ∀ x, x ∈ no → mg x = none)
    (hd : ∀ (k : Nat) (p : PD), fs[k]? = some p → ∃ f, G.fa k = some f ∧ DefOk G K p f) (ht : ∀ (k : Nat) (p : PD), fs[k]? = some p → TrD fs gl no p) :
    ∀ (n k : Nat) (p : PD), fs[k]? = some p → ∀ (f : Addr) (fd : FuncData) (ps : List Str) (dvs : List V), FunD K p.d.name p.d.qual p.d.params p.d.body p.d.scope dvs [] f fd → FnScope p.N ps p.d.scope → ps.length = p.np →
      FnG P w K mg base n f fd ps (spG G (callD fs n) k p.np)
  | 0, k, p, hk, f, fd, ps, dvs, F, S, hl => by
    refine ⟨fun vs H Q E h => by rw [hl]; exact h.1, fun A out s H args us vs Q E _ _ _ _ _ h => ?_⟩
    obtain ⟨_, ds, μ, t, _, _, kk⟩ := h
    exact kk.elim
  | n + 1, k, p, hk, f, fd, ps, dvs, F, S, hl => by
    obtain ⟨oc, od, dV, kV, doc, pm, an, cdv, ct, osl, rfl, lk, hcd, hD, hK⟩ := F.ex
    obtain ⟨n1, n2, htr⟩ := ht k p hk (callD fs n)
    rw [← hl]
    refine fn_sm (sm := p.bd (callD fs n)) lk hcd S (fun ds m => ?_) fun A out s H E room gd => ?_
    · show (match fs[k]? with
        | some f => fin (f.bd (callD fs n) (startE f.N.length ds) m)
        | none => R.stuck) = _
      rw [hk]
    · refine (trS_ok (tr_ok (G := G) n1) n2).ex _ _ _ htr _ _ ⟨rfl, S.nd, rfl, fun _ _ => rfl, hG, rfl, ?_, gd, hgl, hno, fun k2 np dfl h2 => ?_, takes_cx rfl⟩ owns_cx
      · have := room.un
        show (A.deeper _).units + 100 < cLine
        omega
      · obtain ⟨q, h3, _, rfl, rfl⟩ := sgOf_at h2
        have h3 : fs[k2]? = some q := by simpa using h3
        obtain ⟨f2, e1, D2⟩ := hd k2 q h3
        obtain ⟨fd2, ps2, dvs2, F2, S2, l2, b2⟩ := D2.ex
        exact ⟨f2, fd2, ps2, n, e1, F2.kp, room, lvl hG hgl hno hd ht n k2 q h3 f2 fd2 ps2 dvs2 F2 S2 l2, b2⟩
end

/-! ### the law's end -/
theorem law_go {P : Program} {w : World} {K : PySem.W.Frag} {mg mb : Str → Option Value} {k : Nat} {fa a : Addr} {fd : FuncData} {ps : List Str} {sp : Sp} {s1 : Shared} {vs : List Value} {ns : List Int}
    (inK : K.In s1.heap) (nsG : s1.heap.Ns mainGlobals mg) (nsB : s1.heap.Ns builtinsNs mb) (hbb : ∀ z : Str, z ≠ "__name__" → mb z = bootBuiltins z) (noL : s1.heap.NoLimit) (hg : s1.gens = #[])
    (ha : s1.heap.get? a = some { cls := .type "list", data := .seq vs.toArray }) (hi : IntsAre vs ns) (hl : ns.length ≤ sizeLine) (room : Room k callerA) (out : K.lookup a = none)
    (F : ∀ base : Heap, K.In base → base.Ns mainGlobals mg → FnG P w K mg base k fa fd ps sp) (hbind : BindsTo s1 fd ⟨[.ref a], []⟩ (ps.zip [.ref a]))
    (hsp : ∀ H : Hp, (∀ b, H b ≠ none → b = a) → SqF H a (ns.map V.int) → sp [.ref a] H (fun v _ => v = .bl true) fun _ _ _ => False) :
    codeAny (model P w) callerA (.call (.ref fa) ⟨[.ref a], []⟩) (fun r s2 => r = .ok (.ret (.bool true)) ∧ OldK s1.heap s2.heap ∧ s2.os = s1.os ∧ AllBare s2.gens) s1 := by
  have rv := vals_ints hi
  have nv := hi.length
  let O : Obj := { cls := .type "list", data := .seq vs.toArray }
  let H : Hp := fun b => if b = a then some (.frz O (.lst (ns.map V.int))) else none
  have Hself : H a = some (.frz O (.lst (ns.map V.int))) := if_pos rfl
  have Hoff : ∀ {b}, b ≠ a → H b = none := fun h => if_neg h
  have only : ∀ b, H b ≠ none → b = a := fun b z => by
    by_cases e : b = a
    · exact e
    · exact absurd (Hoff e) z
  have down : ∀ {b : Addr} {o : Obj}, s1.heap.get? b = some o → b ≠ a → (hidT s1.heap H).get? b = some o := fun e n => hidT_get e (Hoff n)
  have dn : ∀ {b : Addr} {o : Obj} {es : Array DictEntry} {ep : Nat}, s1.heap.get? b = some o → o.data = .dict es ep → b ≠ a := fun {b o es ep} e d z => by
    subst z; rw [ha] at e; cases e
    exact absurd (show Data.seq vs.toArray _ = Data.dict es ep from d) (fun z => by cases z)
  have nsD : ∀ {b : Addr} {m : Str → Option Value}, s1.heap.Ns b m → (hidT s1.heap H).Ns b m := fun ⟨o, es, ep, e, d, r⟩ => ⟨o, es, ep, down e (dn e d), d, r⟩
  have inB : K.In (hidT s1.heap H) := fun b o e => down (inK b o e) fun z => by subst z; rw [out] at e; cases e
  have mod : Mod K mg (hidT s1.heap H) := ⟨inB, nsD nsG, ⟨mb, nsD nsB, hbb⟩, let ⟨mc, z1, z2⟩ := noL; ⟨mc, nsD z1, z2⟩⟩
  have hok : HOk P w H s1.heap := fun b u z => by
    by_cases e : b = a
    · subst e
      rw [Hself] at z; cases z
      exact ⟨ha, by rw [List.length_map]; exact hl, vs, _, rv, ha⟩
    · rw [Hoff e] at z; cases z
  have env0 : Env0 P w K mg (hidT s1.heap H) callerA [] s1 H := ⟨rfl, mod, fun b o e => of_hidT e, Nat.le_of_eq (hidT_size _ _), trivial, fun b z => absurd (show b ∈ ([] : List Addr) from z) (by simp), hok, .of_eq hg⟩
  refine codeAny_mono ((F _ inB (nsD nsG)).go callerA [] s1 H ⟨[.ref a], []⟩ [.ref a] [.ref a] _ _ room rfl env0 hbind (.cons rfl .nil) (hsp H only ⟨O, Hself⟩)) fun r s2 hr => ?_
  match r, hr with
  | .error e, hr =>
    obtain ⟨_, _, _, _, _, _, _, _, _, _, _, _, z⟩ := hr
    exact z.elim
  | .ok .next, hr => exact False.elim hr
  | .ok .brk, hr => exact False.elim hr
  | .ok .cont, hr => exact False.elim hr
  | .ok (.ret u), hr =>
    obtain ⟨v, H2, os, bare, un, ok2, rl, q⟩ := hr
    have q : v = .bl true := q
    subst q
    obtain rfl : u = Value.bool true := rl
    refine ⟨rfl, OldK.of_keep fun b o e => ?_, os, bare⟩
    by_cases z : b = a
    · subst z
      obtain ⟨e2, _⟩ := ok2 b _ (un.frzs b _ _ Hself)
      rw [ha] at e; cases e
      exact e2
    · exact un.keep b o e (Hoff z) (by intro y; exact absurd (show b ∈ ([] : List Addr) from y) (by simp)) (by simp)

/-! ### what the head tells -/
mutual
def rdB (K : PySem.W.Frag) (fa ca : Nat → Option Addr) : D → Value → Bool
  | .non, .none => true
  | .bl b, .bool c => decide (b = c)
  | .int i, .int j _ => decide (i = j)
  | .str x, .str y _ => decide (x = y)
  | .ty n, .type m => decide (n = m)
  | .fn k, .ref a => decide (fa k = some a)
  | .cls k, .ref a => decide (ca k = some a)
  | .tup ds, .ref a => (match K.lookup a with
    | some ⟨.type c, _, .seq its _, _⟩ => decide (c = "tuple") && decide (its.size ≤ sizeLine) && rdsB K fa ca ds its.toList
    | _ => false)
  | _, _ => false
def rdsB (K : PySem.W.Frag) (fa ca : Nat → Option Addr) : List D → List Value → Bool
  | [], [] => true
  | d :: ds, u :: us => rdB K fa ca d u && rdsB K fa ca ds us
  | _, _ => false
end
section
variable {K : PySem.W.Frag} {fa ca : Nat → Option Addr}
mutual
theorem rdB_ok : ∀ {d : D} {u : Value}, rdB K fa ca d u = true → ∃ v, RelV v u ∧ ∀ t H, RD ⟨K, fa, ca⟩ t H d v := fun {d u} h => by
  match d, u, h with
  | .non, .none, _ => exact ⟨.non, rfl, fun _ _ => .non⟩
  | .bl b, .bool c, h =>
    unfold rdB at h
    have := of_decide_eq_true h; subst this
    exact ⟨.bl b, rfl, fun _ _ => .bl b⟩
  | .int i, .int j k, h =>
    unfold rdB at h
    have := of_decide_eq_true h; subst this
    exact ⟨.int i, ⟨k, rfl⟩, fun _ _ => .int i⟩
  | .str x, .str y k, h =>
    unfold rdB at h
    have := of_decide_eq_true h; subst this
    exact ⟨.str x, ⟨k, rfl⟩, fun _ _ => .str x⟩
  | .ty n, .type m, h =>
    unfold rdB at h
    have := of_decide_eq_true h; subst this
    exact ⟨.ty n, rfl, fun _ _ => .ty n⟩
  | .fn k, .ref a, h =>
    unfold rdB at h
    exact ⟨.ref a, rfl, fun _ _ => .fn (of_decide_eq_true h)⟩
  | .cls k, .ref a, h =>
    unfold rdB at h
    exact ⟨.ref a, rfl, fun _ _ => .cls (of_decide_eq_true h)⟩
  | .tup ds, .ref a, h =>
    unfold rdB at h
    split at h
    · rename_i c od its n osl e
      simp only [Bool.and_eq_true, decide_eq_true_eq] at h
      obtain ⟨⟨h1, h2⟩, h3⟩ := h
      obtain ⟨vs, rv, rd⟩ := rdsB_ok h3
      exact ⟨.ref a, rfl, fun t H => .tup (.inr ⟨_, its, n, e, congrArg Value.type h1, rfl, h2, rv⟩) (rd t H)⟩
    · cases h
theorem rdsB_ok : ∀ {ds : List D} {us : List Value}, rdsB K fa ca ds us = true → ∃ vs, Vals vs us ∧ ∀ t H, RDs ⟨K, fa, ca⟩ t H ds vs := fun {ds us} h => by
  match ds, us, h with
  | [], [], _ => exact ⟨[], .nil, fun _ _ => .nil⟩
  | d :: ds, u :: us, h =>
    unfold rdsB at h
    rw [Bool.and_eq_true] at h
    obtain ⟨v, a1, a2⟩ := rdB_ok h.1
    obtain ⟨vs, b1, b2⟩ := rdsB_ok h.2
    exact ⟨v :: vs, .cons a1 b1, fun t H => .cons (a2 t H) (b2 t H)⟩
end
end
def isIntV : Value → Bool
  | .int _ _ => true
  | _ => false
def noInts (o : Obj) : Bool := match o.cls, o.data with
  | .type c, .seq its _ => !(decide (c = "list") && its.toList.all isIntV)
  | _, _ => true
def nmB (K : PySem.W.Frag) (fa ca : Nat → Option Addr) (p : Str × D) : Bool := match PySem.W.nsIn K mainGlobals p.1 with
  | some (some u) => rdB K fa ca p.2 u
  | _ => false
def abB (K : PySem.W.Frag) (x : Str) : Bool := match PySem.W.nsIn K mainGlobals x with
  | some none => true
  | _ => false
def faOf (nms : List Str) (K : PySem.W.Frag) : Nat → Option Addr := fun k => (nms[k]?).map (He.ga K)
def gOf (nms cs : List Str) (K : PySem.W.Frag) : Gx := ⟨K, faOf nms K, faOf cs K⟩
def chkB (nms cs : List Str) (gl : List (Str × D)) (no : List Str) (K : PySem.W.Frag) : Bool :=
  gl.all (nmB K (faOf nms K) (faOf cs K)) && no.all (abB K) && K.all fun p => noInts p.2
def obsX (chk : PySem.W.Frag → Bool) (fn : List He.DefD) (K : PySem.W.Frag) : He.AlD := (chk K && fn.all fun z => z.ok K, fn.map fun z => He.fnW K z.at_)
def TellsX (chk : PySem.W.Frag → Bool) (fn : List He.DefD) (K : PySem.W.Frag) : Prop := obsX chk fn K = He.valD fn
def obsXG (n : Nat) (chk : PySem.W.Frag → Bool) (fn : List He.DefD) (g : Addr → Option Obj) : He.AlD := obsX chk fn (He.frG g (He.asD g n))
def hookX (n : Nat) (chk : PySem.W.Frag → Bool) (fn : List He.DefD) : PySem.W.Hook where
  α := He.AlD
  obs s := obsXG n chk fn s.heap.get?
  val _ := He.valD fn
  says _ h := ∃ K : PySem.W.Frag, K.In h ∧ TellsX chk fn K
  of _ _ e := ⟨_, He.frG_in, e⟩
  keeps _ _ _ z k := let ⟨K, hK, c⟩ := z; ⟨K, PySem.W.Frag.In.keeps hK k, c⟩
theorem obsXG_eq {n : Nat} {chk : PySem.W.Frag → Bool} {fn : List He.DefD} {g : Addr → Option Obj} {s : Shared} (h : ∀ a, g a = s.heap.get? a) : obsXG n chk fn g = (hookX n chk fn).obs s := by
  obtain rfl : g = s.heap.get? := funext h
  rfl
section
variable {K : PySem.W.Frag} {chk : PySem.W.Frag → Bool} {fn : List He.DefD} {nms cs : List Str} {gl : List (Str × D)} {no : List Str} {h : Heap} {mg : Str → Option Value}
theorem TellsX.chk_ (c : TellsX chk fn K) : chk K = true := (Bool.and_eq_true_iff.mp (congrArg Prod.fst c)).1
theorem TellsX.def_ (c : TellsX chk fn K) {i : Nat} {z : He.DefD} (hz : fn[i]? = some z) : ∃ fd, FunD K z.name z.qual z.params z.body z.scope (z.dvs K) (z.kws K) (He.fAd K z.at_) fd := by
  have c1 := (Bool.and_eq_true_iff.mp (congrArg Prod.fst c)).2
  have c2 := congrArg (fun q : He.AlD => q.2[i]?) c
  have c3 : (fn.map fun z => He.fnW K z.at_)[i]? = (fn.map He.DefD.val)[i]? := c2
  rw [List.getElem?_map, List.getElem?_map, hz] at c3
  exact He.DefD.funD (Option.some.inj c3) (List.all_eq_true.mp c1 z (List.mem_of_getElem? hz))
theorem chk_gl (X : K.In h) (N : h.Ns mainGlobals mg) (c : chkB nms cs gl no K = true) {x : Str} {d : D} (e : gl.lookup x = some d) : ∃ (v : V) (u : Value), mg x = some u ∧ RelV v u ∧ ∀ t H, RD (gOf nms cs K) t H d v := by
  unfold chkB at c
  simp only [Bool.and_eq_true, List.all_eq_true] at c
  have q := c.1.1 _ (PySem.mem_of_lookup e)
  unfold nmB at q
  split at q
  · rename_i u e2
    obtain ⟨v, a, b⟩ := rdB_ok q
    exact ⟨v, u, PySem.W.mg_of X N e2, a, b⟩
  · cases q
theorem chk_no (X : K.In h) (N : h.Ns mainGlobals mg) (c : chkB nms cs gl no K = true) {x : Str} (e : x ∈ no) : mg x = none := by
  unfold chkB at c
  simp only [Bool.and_eq_true, List.all_eq_true] at c
  have q := c.1.2 _ e
  unfold abB at q
  split at q
  · rename_i e2; exact PySem.W.mg_none_of X N e2
  · cases q
theorem ints_all : ∀ {vs : List Value} {ns : List Int}, IntsAre vs ns → vs.all isIntV = true
  | _, _, .nil => rfl
  | _, _, .cons _ _ z => by rw [List.all_cons, ints_all z]; rfl
theorem mem_look {α : Type} {a : Nat} {o : α} : ∀ {l : List (Nat × α)}, l.lookup a = some o → (a, o) ∈ l
  | [], e => by cases e
  | (b, u) :: r, e => by
    rw [List.lookup_cons] at e
    cases q : (a == b) with
    | true =>
      rw [q] at e; cases e
      have : a = b := by simpa using q
      rw [this]; exact List.mem_cons_self
    | false => rw [q] at e; exact List.mem_cons_of_mem _ (mem_look e)
theorem chk_out (c : chkB nms cs gl no K = true) {a : Addr} {vs : List Value} {ns : List Int} (X : K.In h) (ha : h.get? a = some { cls := .type "list", data := .seq vs.toArray }) (hi : IntsAre vs ns) : K.lookup a = none := by
  cases e : K.lookup a with
  | none => rfl
  | some o =>
    have em : (a, o) ∈ K := mem_look e
    have z := X a o e
    rw [ha] at z; cases z
    unfold chkB at c
    simp only [Bool.and_eq_true, List.all_eq_true] at c
    have q := c.2 _ em
    simp only [noInts] at q
    rw [ints_all hi] at q
    simp at q
end

/-! ### defs -/
theorem defOk0 {K : PySem.W.Frag} {nms cs : List Str} {p : PD} {f : Addr} {fd : FuncData} (F : FunD K p.d.name p.d.qual p.d.params p.d.body p.d.scope [] [] f fd) (h0 : p.dfl = []) (ps : List Str) (S : FnScope p.N ps p.d.scope) (hl : ps.length = p.np)
    (hb : ∀ (kV doc pm : Value) (an : Option Addr) (cdv ct : Value) (us : List Value), us.length = ps.length → bindArgs (PySem.W.fnOf p.d.name p.d.qual p.d.params p.d.body p.d.scope .none kV doc pm an cdv ct) ⟨us, []⟩ = pure (ps.zip us)) : DefOk (gOf nms cs K) K p f :=
  ⟨fd, ps, [], F, S, hl, fun j hj => ⟨[], [], F.bindsN hb, .nil, fun t H => by rw [h0, List.drop_nil]; exact .nil⟩⟩
theorem rds_ints {G : Gx} {t : List Addr} {H : Hp} : ∀ ns : List Int, RDs G t H (ns.map D.int) (ns.map V.int)
  | [] => .nil
  | n :: ns => .cons (.int n) (rds_ints ns)
/-- the law -/
theorem walk_di {l : PySem.W.OpenLaw} {n k : Nat} {q : Program} {loose : List Str} {XP : (Str → Option Value) → Heap → Prop} {d : DefRec} {nms cs : List Str} {gl : List (Str × D)} {no : List Str} {fn : List He.DefD} {fs : List PD} {m kl : Nat} {pl : PD}
    (hn : l.most = some n) (hn2 : n ≤ sizeLine) (hdf : d.params.defaults = []) (room : Room k callerA) (hx : gl.lookup d.name = some (.fn kl)) (hl : fs[kl]? = some pl) (hnp : pl.np = 1) (hpd : pl.dfl = [])
    (hd : ∀ (K : PySem.W.Frag), TellsX (chkB nms cs gl no) fn K → ∀ (i : Nat) (p : PD), fs[i]? = some p → ∃ f, (gOf nms cs K).fa i = some f ∧ DefOk (gOf nms cs K) K p f)
    (ht : ∀ (i : Nat) (p : PD), fs[i]? = some p → TrD fs gl no p)
    (run : ∀ ns : List Int, ns.length ≤ n → ∃ μ, callD fs k kl [.lst (ns.map D.int)] [] = .ok (.bl true) μ) :
    PySem.W.WalkO q loose XP (fun w h => (hookX m (chkB nms cs gl no) fn).says w h) l.row.toRowW d [] (fun f vs => PySem.call f vs) := by
  refine Att.attach_call hn hdf fun w s0 s1 mg mb fa o pm cd doc a vs ns G Y ho hdd hcd hmg hobj hints hlen hg => ?_
  obtain ⟨K, inK, c⟩ := Y
  obtain ⟨v, u, e1, e2, e3⟩ := chk_gl inK G.T.g c.chk_ hx
  obtain ⟨f, h1, D1⟩ := hd K c kl pl hl
  obtain ⟨fd, ps, dvs, F1, S1, hps, h4⟩ := D1.ex
  have hv : v = .ref f := by
    have z := e3 [] (fun _ => none)
    cases z with
    | fn z => rw [h1] at z; cases z; rfl
  subst hv
  obtain rfl : u = Value.ref f := e2
  rw [hmg] at e1
  cases e1
  obtain ⟨ds, ws, b1, b2, b3⟩ := h4 0 (Nat.zero_le _)
  have w0 : ws = [] := by
    have z := b3 [] (fun _ => none)
    rw [hpd] at z
    cases z with
    | nil => rfl
  subst w0
  cases b2
  obtain ⟨μ, hrun⟩ := run ns hlen
  refine law_go (k := k) (ps := ps) (sp := spG (gOf nms cs K) (callD fs k) kl pl.np) inK G.T.g G.T.b G.T.builtins G.T.nolimit hg hobj hints (Nat.le_trans hlen hn2) room (chk_out c.chk_ inK hobj hints) (fun base kb nb => ?_) (by have z := b1 s1 [.ref a] inK (by rw [hps, hnp]; rfl); rw [List.append_nil] at z; exact z) fun H hO hS => ?_
  · exact lvl (P := l.prog) (w := w) (base := base) (mg := mg) (no := no) (G := gOf nms cs K) rfl (fun x z hz => chk_gl inK G.T.g c.chk_ hz) (fun x hz => chk_no inK G.T.g c.chk_ hz) (hd K c) ht k kl pl hl _ fd ps dvs F1 S1 hps
  · refine ⟨by rw [hnp]; rfl, [.lst (ns.map D.int)], [], [], ⟨rfl, fun l o z => by simp at z, fun b z => by simp at z, fun l l2 o o2 p z => by simp at z⟩, .cons (.lst hS (rds_ints ns)) .nil, ?_⟩
    rw [hrun]
    intro v H2 t2 _ _ r
    cases r
    rfl
end DI

set_option Elab.async false
set_option linter.all false
set_option maxRecDepth 100000
set_option maxHeartbeats 1000000
/-! DIN: reckoning with actions. -/
namespace DI
open PySem PySem.Spec L2
open PyProof.Rows hiding St

/-- a proof that is not told to be by rfl -/
theorem nr {α : Type _} {a b : α} (h : a = b) : a = b := h.trans rfl
section
variable {α β γ : Type}
@[simp] theorem bind_ok (a : α) (m : Sto) (f : α → Sto → R β) : (R.ok a m).bind f = f a m := nr rfl
@[simp] theorem bind_exc (k : Nat) (fs : List (Str × D)) (m : Sto) (f : α → Sto → R β) : (R.exc k fs m).bind f = .exc k fs m := nr rfl
@[simp] theorem bind_stuck (f : α → Sto → R β) : (R.stuck).bind f = .stuck := nr rfl
@[simp] theorem of_ok (r : Env) (a : α) (m : Sto) (f : α → Sto → RS) : RS.of r (R.ok a m) f = f a m := nr rfl
@[simp] theorem of_exc (r : Env) (k : Nat) (fs : List (Str × D)) (m : Sto) (f : α → Sto → RS) : RS.of r (R.exc k fs m) f = .exc k fs r m := nr rfl
@[simp] theorem of_stuck (r : Env) (f : α → Sto → RS) : RS.of r R.stuck f = .stuck := nr rfl
end
@[simp] theorem seq_nx (r : Env) (m : Sto) (f : Env → Sto → RS) : (RS.nx r m).seq f = f r m := nr rfl
@[simp] theorem seq_ret (d : D) (m : Sto) (f : Env → Sto → RS) : (RS.ret d m).seq f = .ret d m := nr rfl
@[simp] theorem seq_bk (r : Env) (m : Sto) (f : Env → Sto → RS) : (RS.bk r m).seq f = .bk r m := nr rfl
@[simp] theorem seq_ct (r : Env) (m : Sto) (f : Env → Sto → RS) : (RS.ct r m).seq f = .ct r m := nr rfl
@[simp] theorem seq_exc (k : Nat) (fs : List (Str × D)) (r : Env) (m : Sto) (f : Env → Sto → RS) : (RS.exc k fs r m).seq f = .exc k fs r m := nr rfl
@[simp] theorem seq_stuck (f : Env → Sto → RS) : RS.stuck.seq f = .stuck := nr rfl
@[simp] theorem fin_nx (r : Env) (m : Sto) : fin (.nx r m) = .ok .non m := nr rfl
@[simp] theorem fin_ret (d : D) (m : Sto) : fin (.ret d m) = .ok d m := nr rfl
@[simp] theorem fin_exc (k : Nat) (fs : List (Str × D)) (r : Env) (m : Sto) : fin (.exc k fs r m) = .exc k fs m := nr rfl

/-- ends of parts -/
def nxO (o : Option Env) (m : Sto) : RS := match o with
  | some r => .nx r m
  | none => .stuck
def stO (r : Env) (o : Option Sto) : RS := match o with
  | some m => .nx r m
  | none => .stuck
def vaO (o : Option (Option D)) (m : Sto) : R D := match o with
  | some (some d) => .ok d m
  | _ => .stuck
def tO {α : Type} (o : Option α) (m : Sto) : R α := match o with
  | some b => .ok b m
  | none => .stuck
@[simp] theorem nxO_some (r : Env) (m : Sto) : nxO (some r) m = .nx r m := nr rfl
@[simp] theorem stO_some (r : Env) (m : Sto) : stO r (some m) = .nx r m := nr rfl
@[simp] theorem vaO_some (d : D) (m : Sto) : vaO (some (some d)) m = .ok d m := nr rfl
@[simp] theorem tO_some {α : Type} (b : α) (m : Sto) : tO (some b) m = .ok b m := nr rfl
@[simp] theorem ofO_some {α : Type} (d : α) (m : Sto) : ofO (some (d, m)) = .ok d m := nr rfl

section
variable (a b c : M D) (p : P) (r : Env) (m : Sto) (s t : SM) (ms : M (List D)) (tt uu : M Bool)
@[simp] theorem z_seq : sSeq s t r m = (s r m).seq t := nr rfl
@[simp] theorem z_if : sIf tt s t r m = RS.of r (tt r m) fun k m1 => if k = true then s r m1 else t r m1 := nr rfl
@[simp] theorem z_asg : sAsg p a r m = RS.of r (a r m) fun d m1 => nxO (bindP p d r) m1 := nr rfl
@[simp] theorem z_ret : sRet a r m = RS.of r (a r m) fun d m1 => .ret d m1 := nr rfl
@[simp] theorem z_retN : sRetN r m = .ret .non m := nr rfl
@[simp] theorem z_drop : sDrop a r m = RS.of r (a r m) fun _ m1 => .nx r m1 := nr rfl
@[simp] theorem z_nx : sNx r m = .nx r m := nr rfl
@[simp] theorem z_bk : sBk r m = .bk r m := nr rfl
@[simp] theorem z_ct : sCt r m = .ct r m := nr rfl
@[simp] theorem z_setIx : sSetIx a b c r m = RS.of r (c r m) fun v m1 => RS.of r (a r m1) fun x m2 => RS.of r (b r m2) fun y m3 => stO r (setD x y v m3) := nr rfl
@[simp] theorem z_var (i : Nat) : mVar i r m = vaO (r[i]?) m := nr rfl
@[simp] theorem z_c (d : D) : mC d r m = .ok d m := nr rfl
@[simp] theorem z_ap1 (f : O1) : mAp1 f a r m = (a r m).bind fun x m1 => ofO (f x m1) := nr rfl
@[simp] theorem z_ap2 (f : O2) : mAp2 f a b r m = (a r m).bind fun x m1 => (b r m1).bind fun y m2 => ofO (f x y m2) := nr rfl
@[simp] theorem z_apN (f : ON) : mApN f ms r m = (ms r m).bind fun xs m1 => ofO (f xs m1) := nr rfl
@[simp] theorem z_nil : mNil r m = .ok [] m := nr rfl
@[simp] theorem z_cons : mCons a ms r m = (a r m).bind fun x m1 => (ms r m1).bind fun xs m2 => .ok (x :: xs) m2 := nr rfl
@[simp] theorem z_call (call : CallF) (k : Nat) (dfl : List D) : mCall call k ms dfl r m = (ms r m).bind fun xs m1 => call k (xs ++ dfl) m1 := nr rfl
@[simp] theorem z_tru : mTru a r m = (a r m).bind fun x m1 => tO (truO x m1) m1 := by
  unfold mTru
  congr 1
  funext x m1
  cases truO x m1 <;> rfl
@[simp] theorem z_cmpT (op : CmpOp) : mCmpT op a b r m = (a r m).bind fun x m1 => (b r m1).bind fun y m2 => tO (cmpB op x y) m2 := by
  unfold mCmpT
  congr 1
  funext x m1
  congr 1
  funext y m2
  cases cmpB op x y <;> rfl
@[simp] theorem z_notT : mNotT tt r m = (tt r m).bind fun b m1 => .ok (!b) m1 := nr rfl
@[simp] theorem z_andT : mAndT tt uu r m = (tt r m).bind fun b m1 => if b = true then uu r m1 else .ok false m1 := nr rfl
@[simp] theorem z_orT : mOrT tt uu r m = (tt r m).bind fun b m1 => if b = true then .ok true m1 else uu r m1 := nr rfl
@[simp] theorem z_ifE : mIf tt a b r m = (tt r m).bind fun c m1 => if c = true then a r m1 else b r m1 := nr rfl
theorem z_andV0 : mAndV a b r m = (a r m).bind fun x m1 => (tO (truO x m1) m1).bind fun k m2 => if k = true then b r m2 else .ok x m2 := by
  unfold mAndV
  congr 1
  funext x m1
  cases truO x m1 with
  | none => rfl
  | some k => cases k <;> rfl
@[simp] theorem z_andV : mAndV a b r m = (a r m).bind fun x m1 => (tO (truO x m1) m1).bind fun k m2 => if k = true then b r m2 else .ok x m2 := z_andV0 a b r m
@[simp] theorem z_orV : mOrV a b r m = (a r m).bind fun x m1 => (tO (truO x m1) m1).bind fun k m2 => if k = true then .ok x m2 else b r m2 := by
  unfold mOrV
  congr 1
  funext x m1
  cases truO x m1 with
  | none => rfl
  | some k => cases k <;> rfl
@[simp] theorem z_notV : mNotV a r m = (a r m).bind fun x m1 => (tO (truO x m1) m1).bind fun k m2 => .ok (.bl (!k)) m2 := by
  unfold mNotV
  congr 1
  funext x m1
  cases truO x m1 <;> rfl
@[simp] theorem z_itV : mItV a r m = (a r m).bind fun d m1 => tO (itV d m1) m1 := by
  unfold mItV
  congr 1
  funext x m1
  cases itV x m1 <;> rfl
@[simp] theorem z_itR : mItR ms r m = (ms r m).bind fun d m1 => tO (rngI d) m1 := by
  unfold mItR
  congr 1
  funext x m1
  cases rngI x <;> rfl
@[simp] theorem z_noP : mNoP r m = .ok none m := nr rfl
@[simp] theorem z_sl (lo hi : M (Option Int)) : mSl a lo hi r m = (a r m).bind fun x m1 => (lo r m1).bind fun l m2 => (hi r m2).bind fun h m3 => ofO (slO x l h m3) := nr rfl
def paO (x : D) (m : Sto) : R (Option Int) := match x with
  | .int i => .ok (some i) m
  | _ => .stuck
@[simp] theorem paO_int (i : Int) : paO (.int i) m = .ok (some i) m := nr rfl
@[simp] theorem z_part : mPart a r m = (a r m).bind fun x m1 => paO x m1 := by
  unfold mPart
  congr 1
@[simp] theorem z_app : mApp a ms r m = (a r m).bind fun x m1 => if isLst x m1 = true then (ms r m1).bind fun ds m2 => ofO (appO x ds m2) else .stuck := nr rfl
@[simp] theorem z_yes : mYes r m = .ok true m := nr rfl
@[simp] theorem z_for (mi : M ItD) : sFor mi p s r m = RS.of r (mi r m) fun it m1 => forL (Live it) p s it.items r m1 := nr rfl
@[simp] theorem z_lc (mi : M ItD) (own : List Nat) : mLc mi own p tt a r m = (mi r m).bind fun it m1 => lcL (Live it) p tt a (wipeE r own) it.items [] m1 := nr rfl
end
@[simp] theorem bp_nm (i : Nat) (d : D) (r : Env) : bindP (.nm i) d r = some (r.set i (some d)) := by simp [bindP]
@[simp] theorem bp_tp (ps : List P) (ds : List D) (r : Env) : bindP (.tp ps) (.tup ds) r = bindPs ps ds r := by simp [bindP]
@[simp] theorem bps_nil (r : Env) : bindPs [] [] r = some r := by simp [bindPs]
@[simp] theorem bps_cons (p : P) (ps : List P) (d : D) (ds : List D) (r : Env) : bindPs (p :: ps) (d :: ds) r = (bindP p d r).bind fun r1 => bindPs ps ds r1 := by simp [bindPs]
@[simp] theorem wipe_nil (r : Env) : wipeE r [] = r := nr rfl
@[simp] theorem wipe_cons (r : Env) (v : Nat) (vs : List Nat) : wipeE r (v :: vs) = (wipeE r vs).set v none := nr rfl

/-! ### values -/
section
variable (m : Sto) (i j : Int) (xs ys : List D) (x y : Str) (d e : D)
@[simp] theorem v_add : binS .Add (.int i) (.int j) m = some (.int (i + j), m) := nr rfl
@[simp] theorem v_sub : binS .Sub (.int i) (.int j) m = some (.int (i - j), m) := nr rfl
@[simp] theorem v_neg : unS .USub (.int i) m = some (.int (-i), m) := nr rfl
theorem log_small {n : Nat} (h : n < 2 ^ 400) : n.log2 < 401 := by
  by_cases z : n = 0
  · subst z; decide
  · have := (Nat.log2_lt z).mpr h; omega
theorem v_mul (h : i.natAbs < 2 ^ 400) (k : j.natAbs < 2 ^ 400) : binS .Mult (.int i) (.int j) m = some (.int (i * j), m) := by
  have a := log_small h
  have b := log_small k
  have : i.natAbs.log2 + j.natAbs.log2 < 1000000 := by omega
  simp only [binS, binV]
  rw [if_pos this]; rfl
theorem v_div (h : j ≠ 0) (k : j.natAbs < 2 ^ 400) : binS .FloorDiv (.int i) (.int j) m = some (.int (i.fdiv j), m) := by
  have b := log_small k
  have : j ≠ 0 ∧ j.natAbs.log2 < 9000 := ⟨h, by omega⟩
  simp only [binS, binV]
  rw [if_pos this]; rfl
theorem v_mod (h : j ≠ 0) : binS .Mod (.int i) (.int j) m = some (.int (i.fmod j), m) := by
  simp only [binS, binV]
  rw [if_pos h]; rfl
theorem v_divP (h : 0 < j) (k : j.natAbs < 2 ^ 400) : binS .FloorDiv (.int i) (.int j) m = some (.int (i / j), m) := by
  rw [v_div m i j (by omega) k, Int.fdiv_eq_ediv_of_nonneg i (by omega)]
theorem v_modP (h : 0 < j) : binS .Mod (.int i) (.int j) m = some (.int (i % j), m) := by
  rw [v_mod m i j (by omega), Int.fmod_eq_emod_of_nonneg i (by omega)]
theorem v_pow (h : 0 ≤ j ∧ j ≤ 1000000 ∧ i.natAbs < 2 ^ 64) : binS .Pow (.int i) (.int j) m = some (.int (i ^ j.toNat), m) := by
  simp only [binS, binV]
  rw [if_pos h]; rfl
theorem v_tupAdd (h : xs.length + ys.length ≤ 1000000) : binS .Add (.tup xs) (.tup ys) m = some (.tup (xs ++ ys), m) := by
  simp only [binS, binV]
  rw [if_pos (show xs.length + ys.length ≤ lim from h)]; rfl
theorem v_lstAdd (h : xs.length + ys.length ≤ 1000000) : binS .Add (.lst xs) (.lst ys) m = some (.lst (xs ++ ys), m) := by
  simp only [binS, binV]
  rw [if_pos (show xs.length + ys.length ≤ lim from h)]; rfl
theorem v_strAdd (h : x.length + y.length ≤ 1000000) : binS .Add (.str x) (.str y) m = some (.str (x ++ y), m) := by
  simp only [binS, binV]
  rw [if_pos (show x.length + y.length ≤ lim from h)]; rfl
@[simp] theorem c_lt : cmpB .Lt (.int i) (.int j) = some (decide (i < j)) := nr rfl
@[simp] theorem c_le : cmpB .LtE (.int i) (.int j) = some (decide (i ≤ j)) := nr rfl
@[simp] theorem c_gt : cmpB .Gt (.int i) (.int j) = some (decide (j < i)) := nr rfl
@[simp] theorem c_ge : cmpB .GtE (.int i) (.int j) = some (decide (j ≤ i)) := nr rfl
@[simp] theorem c_eqS : cmpB .Eq (.str x) (.str y) = some (x == y) := nr rfl
@[simp] theorem c_neS : cmpB .NotEq (.str x) (.str y) = some (!(x == y)) := nr rfl
@[simp] theorem c_eqI : cmpB .Eq (.int i) (.int j) = some (i == j) := nr rfl
@[simp] theorem c_neI : cmpB .NotEq (.int i) (.int j) = some (!(i == j)) := nr rfl
@[simp] theorem c_s (op : CmpOp) : cmpS op d e m = (cmpB op d e).map fun r => (.bl r, m) := nr rfl
@[simp] theorem t_bl (b : Bool) : truO (.bl b) m = some b := nr rfl
@[simp] theorem t_non : truO .non m = some false := nr rfl
@[simp] theorem t_int : truO (.int i) m = some (i != 0) := nr rfl
@[simp] theorem t_tup : truO (.tup xs) m = some (!xs.isEmpty) := nr rfl
@[simp] theorem t_lst : truO (.lst xs) m = some (!xs.isEmpty) := nr rfl
@[simp] theorem x_lst : ixO (.lst xs) (.int i) m = (atI xs i).map fun d => (d, m) := nr rfl
@[simp] theorem x_tup : ixO (.tup xs) (.int i) m = (atI xs i).map fun d => (d, m) := nr rfl
theorem x_ref {l : Nat} (h : m[l]? = some (.lst xs)) : ixO (.ref l) (.int i) m = (atI xs i).map fun d => (d, m) := by simp [ixO, h]
theorem set_ref {l k : Nat} (h : m[l]? = some (.lst xs)) (hk : ixN xs.length i = some k) : setD (.ref l) (.int i) d m = some (m.set l (.lst (xs.set k d))) := by simp [setD, h, hk]
@[simp] theorem i_lst : itV (.lst xs) m = some ⟨xs, none⟩ := nr rfl
@[simp] theorem i_tup : itV (.tup xs) m = some ⟨xs, none⟩ := nr rfl
theorem tup_mk' (h : xs.length ≤ 1000000) : tupO xs m = some (.tup xs, m) := if_pos h
@[simp] theorem tup_mk (h : xs.length / 1000001 = 0) : tupO xs m = some (.tup xs, m) := tup_mk' m xs (by omega)
theorem lst_mk' (h : xs.length ≤ 1000000) : lstO xs m = some (.lst xs, m) := if_pos h
@[simp] theorem lst_mk (h : xs.length / 1000001 = 0) : lstO xs m = some (.lst xs, m) := lst_mk' m xs (by omega)
theorem new_mk' (h : xs.length ≤ 1000000) : newL xs m = some (.ref m.length, m ++ [.lst xs]) := if_pos h
@[simp] theorem new_mk (h : xs.length / 1000001 = 0) : newL xs m = some (.ref m.length, m ++ [.lst xs]) := new_mk' m xs (by omega)
@[simp] theorem len_lst : lenO [.lst xs] m = some (.int xs.length, m) := nr rfl
@[simp] theorem len_tup : lenO [.tup xs] m = some (.int xs.length, m) := nr rfl
@[simp] theorem max_i : maxO [.int i, .int j] m = some (.int (if j > i then j else i), m) := nr rfl
@[simp] theorem min_i : minO [.int i, .int j] m = some (.int (if j < i then j else i), m) := nr rfl
@[simp] theorem tuple_lst : tupleO [.lst xs] m = some (.tup xs, m) := nr rfl
@[simp] theorem tuple_tup : tupleO [.tup xs] m = some (.tup xs, m) := nr rfl
theorem tuple_ref {l : Nat} (h : m[l]? = some (.lst xs)) : tupleO [.ref l] m = some (.tup xs, m) := by simp [tupleO, itemsO, h]
@[simp] theorem list_lst : listO [.lst xs] m = some (.lst xs, m) := nr rfl
@[simp] theorem list_tup : listO [.tup xs] m = some (.lst xs, m) := nr rfl
@[simp] theorem sl_tup (lo hi : Option Int) : slO (.tup xs) lo hi m = some (.tup (cutD xs lo hi), m) := nr rfl
@[simp] theorem sl_lst (lo hi : Option Int) : slO (.lst xs) lo hi m = some (.lst (cutD xs lo hi), m) := nr rfl
theorem at_nn {k : Nat} (h : xs[k]? = some d) : atI xs (k : Int) = some d := by
  have hl := (List.getElem?_eq_some_iff.mp h).1
  unfold atI ixN
  have : (0 : Int) ≤ k ∧ (k : Int) < xs.length := ⟨by omega, by omega⟩
  simp [this, h]
end
theorem at_int {xs : List D} {i : Int} {d : D} (h0 : 0 ≤ i) (h : xs[i.toNat]? = some d) : atI xs i = some d := by
  have := at_nn (d := d) xs h
  rwa [Int.toNat_of_nonneg h0] at this

/-! ### loops -/
theorem for_nil (p : P) (s : SM) (it : List D) (r : Env) (m : Sto) : forL (Live ⟨it, none⟩) p s [] r m = .nx r m := by
  simp [forL, Live]
theorem for_cons (p : P) (s : SM) (it : List D) (d : D) (ds : List D) (r : Env) (m : Sto) : forL (Live ⟨it, none⟩) p s (d :: ds) r m = (match bindP p d r with
    | none => .stuck
    | some r1 => match s r1 m with
      | .nx r2 m2 => forL (Live ⟨it, none⟩) p s ds r2 m2
      | .ct r2 m2 => forL (Live ⟨it, none⟩) p s ds r2 m2
      | .bk r2 m2 => .nx r2 m2
      | x => x) := forL_cons trivial
/-- each turn keeps I and goes on -/
theorem for_inv {p : P} {s : SM} {it : List D} (I : Env → Sto → Prop) : ∀ {ds : List D} {r : Env} {m : Sto}, (∀ d ∈ ds, ∀ r m, I r m → ∃ r1 r2 m2, bindP p d r = some r1 ∧ (s r1 m = .nx r2 m2 ∨ s r1 m = .ct r2 m2) ∧ I r2 m2) → I r m →
    ∃ r2 m2, forL (Live ⟨it, none⟩) p s ds r m = .nx r2 m2 ∧ I r2 m2
  | [], r, m, _, h => ⟨r, m, for_nil p s it r m, h⟩
  | d :: ds, r, m, st, h => by
    obtain ⟨r1, r2, m2, e1, e2, h2⟩ := st d List.mem_cons_self r m h
    obtain ⟨r3, m3, e3, h3⟩ := for_inv (it := it) I (ds := ds) (fun d hd => st d (List.mem_cons_of_mem _ hd)) h2
    refine ⟨r3, m3, ?_, h3⟩
    rw [for_cons, e1]
    rcases e2 with e2 | e2 <;> simp only [e2, e3]
/-- a comprehension whose parts leave the store -/
theorem lc_pure {p : P} {mc : M Bool} {me : M D} {r : Env} {m : Sto} (f : D → Bool) (g : D → D) {it : List D} : ∀ {ds acc : List D}, (∀ d ∈ ds, ∃ r1, bindP p d r = some r1 ∧ mc r1 m = .ok (f d) m ∧ (f d = true → me r1 m = .ok (g d) m)) → acc.length + ds.length ≤ lim →
    lcL (Live ⟨it, none⟩) p mc me r ds acc m = .ok (.lst (acc ++ (ds.filter f).map g)) m
  | [], acc, _, _ => by simp [lcL, Live]
  | d :: ds, acc, st, hl => by
    obtain ⟨r1, e1, e2, e3⟩ := st d List.mem_cons_self
    rw [List.length_cons] at hl
    rw [lcL_cons trivial, e1]
    simp only [e2]
    cases hf : f d with
    | false =>
      simp only
      rw [lc_pure f g (fun d hd => st d (List.mem_cons_of_mem _ hd)) (by omega)]
      simp [hf]
    | true =>
      simp only [e3 hf]
      rw [if_pos (by omega), lc_pure f g (fun d hd => st d (List.mem_cons_of_mem _ hd)) (by rw [List.length_append, List.length_singleton]; omega)]
      simp [hf]
end DI

set_option Elab.async false
set_option linter.all false
set_option maxRecDepth 100000
set_option maxHeartbeats 1000000
/-! DIO: plain values: repr, ==, isinstance. -/
namespace DI
open PySem PySem.Spec L2
open PyProof.Rows hiding St

mutual
/-- plain data, ints below 10^k -/
def okD (k : Nat) : D → Bool
  | .non => true
  | .bl _ => true
  | .int i => decide (i.natAbs < 10 ^ k)
  | .str x => PyData.strOk x
  | .tup ds => okDs k ds
  | .lst ds => okDs k ds
  | _ => false
def okDs (k : Nat) : List D → Bool
  | [] => true
  | d :: ds => okD k d && okDs k ds
end
mutual
def wD (k : Nat) : D → Nat
  | .int _ => 4 * k
  | .str x => x.cps.size
  | .tup ds => wDs k ds
  | .lst ds => wDs k ds
  | _ => 0
def wDs (k : Nat) : List D → Nat
  | [] => 0
  | d :: ds => wD k d + 1 + wDs k ds
end
mutual
def hD : D → Nat
  | .tup ds => hDs ds + 1
  | .lst ds => hDs ds + 1
  | _ => 0
def hDs : List D → Nat
  | [] => 0
  | d :: ds => max (hD d) (hDs ds)
end
@[simp] theorem okDs_nil (k : Nat) : okDs k [] = true := by simp [okDs]
@[simp] theorem okDs_cons (k : Nat) (d : D) (ds : List D) : okDs k (d :: ds) = (okD k d && okDs k ds) := by simp [okDs]
@[simp] theorem okD_tup (k : Nat) (ds : List D) : okD k (.tup ds) = okDs k ds := by simp [okD]
@[simp] theorem okD_lst (k : Nat) (ds : List D) : okD k (.lst ds) = okDs k ds := by simp [okD]
@[simp] theorem okD_non (k : Nat) : okD k .non = true := by simp [okD]
@[simp] theorem okD_bl (k : Nat) (b : Bool) : okD k (.bl b) = true := by simp [okD]
theorem okD_int (k : Nat) (i : Int) : okD k (.int i) = decide (i.natAbs < 10 ^ k) := by simp [okD]
theorem okD_str (k : Nat) (x : Str) : okD k (.str x) = PyData.strOk x := by simp [okD]
theorem okDs_all {k : Nat} : ∀ {ds : List D}, okDs k ds = true ↔ ∀ d ∈ ds, okD k d = true
  | [] => by simp
  | d :: ds => by rw [okDs_cons, Bool.and_eq_true, okDs_all (ds := ds)]; simp
@[simp] theorem wDs_nil (k : Nat) : wDs k [] = 0 := by simp [wDs]
@[simp] theorem wDs_cons (k : Nat) (d : D) (ds : List D) : wDs k (d :: ds) = wD k d + 1 + wDs k ds := by simp [wDs]
@[simp] theorem wD_tup (k : Nat) (ds : List D) : wD k (.tup ds) = wDs k ds := by simp [wD]
@[simp] theorem wD_lst (k : Nat) (ds : List D) : wD k (.lst ds) = wDs k ds := by simp [wD]
@[simp] theorem wD_int (k : Nat) (i : Int) : wD k (.int i) = 4 * k := by simp [wD]
@[simp] theorem wD_non (k : Nat) : wD k .non = 0 := by simp [wD]
@[simp] theorem wD_bl (k : Nat) (b : Bool) : wD k (.bl b) = 0 := by simp [wD]
@[simp] theorem wD_str (k : Nat) (x : Str) : wD k (.str x) = x.cps.size := by simp [wD]
@[simp] theorem hDs_nil : hDs [] = 0 := by simp [hDs]
@[simp] theorem hDs_cons (d : D) (ds : List D) : hDs (d :: ds) = max (hD d) (hDs ds) := by simp [hDs]
@[simp] theorem hD_tup (ds : List D) : hD (.tup ds) = hDs ds + 1 := by simp [hD]
@[simp] theorem hD_lst (ds : List D) : hD (.lst ds) = hDs ds + 1 := by simp [hD]
@[simp] theorem hD_int (i : Int) : hD (.int i) = 0 := by simp [hD]
@[simp] theorem hD_non : hD .non = 0 := by simp [hD]
@[simp] theorem hD_bl (b : Bool) : hD (.bl b) = 0 := by simp [hD]
@[simp] theorem hD_str (x : Str) : hD (.str x) = 0 := by simp [hD]
theorem wDs_append (k : Nat) : ∀ (a b : List D), wDs k (a ++ b) = wDs k a + wDs k b
  | [], b => by simp
  | d :: ds, b => by rw [List.cons_append, wDs_cons, wDs_cons, wDs_append k ds b]; omega
theorem okDs_append (k : Nat) (a b : List D) : okDs k (a ++ b) = (okDs k a && okDs k b) := by
  induction a with
  | nil => simp
  | cons d ds ih => rw [List.cons_append, okDs_cons, okDs_cons, ih, Bool.and_assoc]
theorem hDs_append : ∀ (a b : List D), hDs (a ++ b) = max (hDs a) (hDs b)
  | [], b => by simp
  | d :: ds, b => by rw [List.cons_append, hDs_cons, hDs_cons, hDs_append ds b]; omega
theorem wDs_le {k B : Nat} : ∀ {ds : List D}, (∀ d ∈ ds, wD k d ≤ B) → wDs k ds ≤ ds.length * (B + 1)
  | [], _ => by simp
  | d :: ds, h => by
    have h1 := h d List.mem_cons_self
    have h2 := wDs_le (ds := ds) fun e he => h e (List.mem_cons_of_mem _ he)
    rw [wDs_cons, List.length_cons, Nat.add_mul, Nat.one_mul]; omega
theorem hDs_le {B : Nat} : ∀ {ds : List D}, (∀ d ∈ ds, hD d ≤ B) → hDs ds ≤ B
  | [], _ => by simp
  | d :: ds, h => by
    have h1 := h d List.mem_cons_self
    have h2 := hDs_le (ds := ds) fun e he => h e (List.mem_cons_of_mem _ he)
    rw [hDs_cons]; omega
theorem wD_mem {k : Nat} {d : D} : ∀ {ds : List D}, d ∈ ds → wD k d ≤ wDs k ds
  | e :: ds, h => by
    rw [wDs_cons]
    rcases List.mem_cons.mp h with rfl | h
    · omega
    · have := wD_mem (k := k) h; omega
theorem hD_mem {d : D} : ∀ {ds : List D}, d ∈ ds → hD d ≤ hDs ds
  | e :: ds, h => by
    rw [hDs_cons]
    rcases List.mem_cons.mp h with rfl | h
    · omega
    · have := hD_mem h; omega
theorem len_wDs {k : Nat} : ∀ {ds : List D}, ds.length ≤ wDs k ds
  | [] => by simp
  | d :: ds => by rw [wDs_cons, List.length_cons]; have := len_wDs (k := k) (ds := ds); omega

structure PyOk (k : Nat) (d : D) (y : PyData) : Prop where
  lay : y.canLay0 = true
  dp : y.depth = hD d
  wt : y.weight ≤ wD k d
  lv : y.leavesShort (k + 8) = true
  sh : y.showable = true
structure PysOk (k : Nat) (ds : List D) (ys : List PyData) : Prop where
  lay : PyData.canLayAll0 ys = true
  dp : PyData.depthAll ys = hDs ds
  wt : PyData.weightAll ys ≤ wDs k ds
  lv : PyData.leavesShortAll (k + 8) ys = true
  sh : PyData.showableAll ys = true
theorem log_ten {n k : Nat} (h : n < 10 ^ k) : n.log2 ≤ 4 * k ∧ (n ≠ 0 → n.log2 + 1 ≤ 4 * k) := by
  have h2 : n < 2 ^ (4 * k) := by
    refine Nat.lt_of_lt_of_le h ?_
    rw [Nat.pow_mul]
    exact Nat.pow_le_pow_left (by decide) k
  by_cases z : n = 0
  · subst z; simp
  · have := (Nat.log2_lt z).mpr h2; omega
mutual
theorem toPy_ok {k : Nat} (hk : 0 < k) (hk2 : k ≤ 400) : ∀ {d : D}, okD k d = true → ∃ y, toPy d = some y ∧ PyOk k d y := fun {d} h => by
  match d, h with
  | .non, h => exact ⟨.none, rfl, rfl, rfl, Nat.zero_le _, rfl, rfl⟩
  | .bl b, h => exact ⟨.bool b, rfl, rfl, rfl, Nat.zero_le _, rfl, rfl⟩
  | .int i, h =>
    rw [okD_int, decide_eq_true_eq] at h
    obtain ⟨l1, l2⟩ := log_ten h
    refine ⟨.int i, rfl, rfl, rfl, ?_, ?_, ?_⟩
    · rw [wD_int]; simp only [PyData.weight]
      split
      · omega
      · rename_i z
        exact l2 (by simpa using z)
    · show decide ((Str.ofString (toString i)).length ≤ k + 8) = true
      refine decide_eq_true ?_
      rw [PySem.ofString_length]
      have := int_text_length_le10 hk h
      omega
    · simp only [PyData.showable, decide_eq_true_eq]; omega
  | .str x, h =>
    rw [okD_str] at h
    refine ⟨.str x, rfl, by simpa [PyData.canLay0] using h, rfl, by rw [wD_str]; exact Nat.le_refl _, ?_, rfl⟩
    simp only [PyData.leavesShort, List.all_eq_true, decide_eq_true_eq]
    intro c hc
    unfold PyData.strOk at h
    rw [Array.all_eq_true'] at h
    have := h c (by simpa using hc)
    simp only [decide_eq_true_eq] at this
    exact Nat.lt_trans this (by decide)
  | .tup ds, h =>
    rw [okD_tup] at h
    obtain ⟨ys, e, q⟩ := toPys_ok hk hk2 h
    exact ⟨.tuple ys, by simp [toPy, e], by simpa [PyData.canLay0] using q.lay, by simp only [PyData.depth, hD_tup, q.dp], by simpa only [PyData.weight, wD_tup] using q.wt, by simpa only [PyData.leavesShort] using q.lv, by simpa only [PyData.showable] using q.sh⟩
  | .lst ds, h =>
    rw [okD_lst] at h
    obtain ⟨ys, e, q⟩ := toPys_ok hk hk2 h
    exact ⟨.list ys, by simp [toPy, e], by simpa [PyData.canLay0] using q.lay, by simp only [PyData.depth, hD_lst, q.dp], by simpa only [PyData.weight, wD_lst] using q.wt, by simpa only [PyData.leavesShort] using q.lv, by simpa only [PyData.showable] using q.sh⟩
theorem toPys_ok {k : Nat} (hk : 0 < k) (hk2 : k ≤ 400) : ∀ {ds : List D}, okDs k ds = true → ∃ ys, toPys ds = some ys ∧ PysOk k ds ys := fun {ds} h => by
  match ds, h with
  | [], h => exact ⟨[], rfl, rfl, by simp [PyData.depthAll], Nat.zero_le _, rfl, rfl⟩
  | d :: ds, h =>
    rw [okDs_cons, Bool.and_eq_true] at h
    obtain ⟨y, e1, q1⟩ := toPy_ok hk hk2 h.1
    obtain ⟨ys, e2, q2⟩ := toPys_ok hk hk2 h.2
    refine ⟨y :: ys, by simp [toPys, e1, e2], ?_, ?_, ?_, ?_, ?_⟩
    · simp only [PyData.canLayAll0, q1.lay, q2.lay, Bool.and_self]
    · simp only [PyData.depthAll, hDs_cons, q1.dp, q2.dp]
    · rw [wDs_cons]; simp only [PyData.weightAll]; have := q1.wt; have := q2.wt; omega
    · simp only [PyData.leavesShortAll, q1.lv, q2.lv, Bool.and_self]
    · simp only [PyData.showableAll, q1.sh, q2.sh, Bool.and_self]
end
theorem shaped_of {k : Nat} {d : D} {y : PyData} (q : PyOk k d y) (h : hD d ≤ 64) : SeqAt.shaped y = true := by
  unfold SeqAt.shaped
  rw [q.lay, q.dp]
  simpa using h
/-- repr of plain data, not too great -/
theorem repr_ok {k : Nat} (hk : 0 < k) (hk2 : k ≤ 400) {d : D} (h : okD k d = true) (hh : hD d ≤ 64) (hw : (k + 10) * wD k d + (k + 8) ≤ lim) : ∃ s, ∀ m, reprO [d] m = some (.str s, m) := by
  obtain ⟨y, e, q⟩ := toPy_ok hk hk2 h
  refine ⟨y.shown, fun m => ?_⟩
  have l1 := PyData.shown_le (k + 8) (by omega) y q.lv
  have l2 : (k + 8 + 2) * y.weight ≤ (k + 10) * wD k d := Nat.mul_le_mul_left _ q.wt
  have hc : SeqAt.shaped y = true ∧ y.showable = true ∧ y.shown.length ≤ lim := ⟨shaped_of q hh, q.sh, by omega⟩
  cases d with
  | dct kvs => simp [okD] at h
  | _ => simp only [reprO, e]; rw [if_pos hc]
theorem repr_dct (m : Sto) : reprO [.dct []] m = some (.str (PyData.shown (.dict [])), m) := rfl
theorem repr_bl (b : Bool) (m : Sto) : reprO [.bl b] m = some (.str (PyData.shown (.bool b)), m) := by
  have hc : SeqAt.shaped (.bool b) = true ∧ (PyData.bool b).showable = true ∧ (PyData.shown (.bool b)).length ≤ lim := by cases b <;> exact ⟨by decide, by decide, by decide⟩
  simp only [reprO, toPy]; rw [if_pos hc]
/-- == of a list with the empty one -/
theorem eq_empty {k : Nat} (hk : 0 < k) (hk2 : k ≤ 400) {ds : List D} (h : okDs k ds = true) (hh : hDs ds ≤ 63) : eqD (.lst ds) (.lst []) = some ds.isEmpty := by
  obtain ⟨y, e, q⟩ := toPy_ok hk hk2 (d := .lst ds) (by simpa using h)
  have s1 := shaped_of q (by rw [hD_lst]; omega)
  have e2 : toPy (.lst []) = some (.list []) := rfl
  have s2 : SeqAt.shaped (.list []) = true := by decide
  unfold eqD
  simp only [e, e2, s1, s2, Bool.and_self, if_true]
  simp only [toPy] at e
  obtain ⟨ys, e3, rfl⟩ := Option.map_eq_some_iff.mp e
  cases ds with
  | nil => simp only [toPys, Option.some.injEq] at e3; subst e3; simp [PyData.eqv, PyData.eqvAll]
  | cons d ds =>
    simp only [toPys] at e3
    split at e3
    · cases e3; simp [PyData.eqv, PyData.eqvAll]
    · cases e3
/-- == of a thing with itself -/
theorem eq_self {k : Nat} (hk : 0 < k) (hk2 : k ≤ 400) {d : D} (h : okD k d = true) (hh : hD d ≤ 64) : eqD d d = some true := by
  obtain ⟨y, e, q⟩ := toPy_ok hk hk2 h
  have s1 := shaped_of q hh
  unfold eqD
  simp only [e, s1, Bool.and_self, if_true, SeqAt.eqv_refl y q.lay]

/-! ### isinstance -/
def tyF : D → String
  | .non => "NoneType"
  | .bl _ => "bool"
  | .int _ => "int"
  | .str _ => "str"
  | .tup _ => "tuple"
  | .lst _ => "list"
  | .dct _ => "dict"
  | _ => ""
def isFz : D → Bool
  | .non => true | .bl _ => true | .int _ => true | .str _ => true | .tup _ => true | .lst _ => true | .dct _ => true
  | _ => false
theorem tyOf_fz {d : D} (h : isFz d = true) (m : Sto) : tyOf d m = some (tyF d) := by cases d <;> first | rfl | cases h
theorem okD_fz {k : Nat} {d : D} (h : okD k d = true) : isFz d = true := by cases d <;> first | rfl | (simp [okD] at h)
def tyB (a b : String) : Bool := a == b || (a == "bool" && b == "int")
def tys : List String := ["NoneType", "bool", "int", "str", "tuple", "list", "dict"]
theorem kit_all : (tys.all fun a => (tys.drop 1).all fun b => decide (kitB a b = some (tyB a b))) = true := by decide +kernel
theorem isi_fz {d : D} (h : isFz d = true) {n : String} (hn : n ∈ tys.drop 1) (m : Sto) : isiO [d, .ty n] m = some (.bl (tyB (tyF d) n), m) := by
  have a : tyF d ∈ tys := by cases d <;> first | (simp [tyF, tys]; done) | cases h
  have q := List.all_eq_true.mp kit_all _ a
  have q2 := of_decide_eq_true (List.all_eq_true.mp q _ hn)
  show (match tyOf d m with
    | some k => (kitB k n).map fun b => (D.bl b, m)
    | none => none) = _
  rw [tyOf_fz h, ]
  show (kitB (tyF d) n).map _ = _
  rw [q2]; rfl
section
variable (m : Sto) (d : D)
def isTupD : D → Bool
  | .tup _ => true
  | _ => false
def isIntD : D → Bool
  | .int _ => true
  | _ => false
def isStrD : D → Bool
  | .str _ => true
  | _ => false
def isBlD : D → Bool
  | .bl _ => true
  | _ => false
def isLstD : D → Bool
  | .lst _ => true
  | _ => false
theorem isi_int (h : isFz d = true) : isiO [d, .ty "int"] m = some (.bl (isIntD d || isBlD d), m) := by
  rw [isi_fz h (by decide)]; cases d <;> first | rfl | cases h
theorem isi_bool (h : isFz d = true) : isiO [d, .ty "bool"] m = some (.bl (isBlD d), m) := by
  rw [isi_fz h (by decide)]; cases d <;> first | rfl | cases h
theorem isi_str (h : isFz d = true) : isiO [d, .ty "str"] m = some (.bl (isStrD d), m) := by
  rw [isi_fz h (by decide)]; cases d <;> first | rfl | cases h
theorem isi_tup (h : isFz d = true) : isiO [d, .ty "tuple"] m = some (.bl (isTupD d), m) := by
  rw [isi_fz h (by decide)]; cases d <;> first | rfl | cases h
theorem isi_lst (h : isFz d = true) : isiO [d, .ty "list"] m = some (.bl (isLstD d), m) := by
  rw [isi_fz h (by decide)]; cases d <;> first | rfl | cases h
end
theorem at_mem {xs : List D} {i : Int} (h0 : 0 ≤ i) (h : i < xs.length) : ∃ d, atI xs i = some d ∧ d ∈ xs := by
  have hl : i.toNat < xs.length := by omega
  exact ⟨xs[i.toNat], at_int h0 (List.getElem?_eq_getElem hl), List.getElem_mem hl⟩
/-- each turn goes on; I tells what is left -/
theorem for_left {p : P} {s : SM} {it : List D} (I : List D → Env → Sto → Prop) : ∀ {ds : List D} {r : Env} {m : Sto}, (∀ d ds r m, I (d :: ds) r m → ∃ r1 r2 m2, bindP p d r = some r1 ∧ (s r1 m = .nx r2 m2 ∨ s r1 m = .ct r2 m2) ∧ I ds r2 m2) → I ds r m →
    ∃ r2 m2, forL (Live ⟨it, none⟩) p s ds r m = .nx r2 m2 ∧ I [] r2 m2
  | [], r, m, _, h => ⟨r, m, for_nil p s it r m, h⟩
  | d :: ds, r, m, st, h => by
    obtain ⟨r1, r2, m2, e1, e2, h2⟩ := st d ds r m h
    obtain ⟨r3, m3, e3, h3⟩ := for_left (it := it) I (ds := ds) st h2
    refine ⟨r3, m3, ?_, h3⟩
    rw [for_cons, e1]
    rcases e2 with e2 | e2 <;> simp only [e2, e3]
theorem v_lstMul (m : Sto) (d : D) (k : Int) (h : 0 ≤ k) (h2 : k ≤ 1000) : binS .Mult (.lst [d]) (.int k) m = some (.lst (List.replicate k.toNat d), m) := by
  have c : -(2 ^ 63) ≤ k ∧ k < 2 ^ 63 ∧ [d].length * k.toNat ≤ lim := ⟨by omega, by omega, by unfold lim; rw [List.length_singleton]; omega⟩
  simp only [binS, binV]
  rw [if_pos c]
  simp
theorem v_tupMul (m : Sto) (d : D) (k : Int) (h : 1 ≤ k) (h2 : k ≤ 1000) : binS .Mult (.tup [d]) (.int k) m = some (.tup (List.replicate k.toNat d), m) := by
  have c : 1 ≤ k ∧ k ≤ 1000 ∧ [d].length ≤ 1000 ∧ [d] ≠ [] := ⟨h, h2, by simp, by simp⟩
  simp only [binS, binV]
  rw [if_pos c]
  simp
theorem rng1 {j : Int} (h : j < 1000000) (h0 : 0 ≤ j) : rngI [.int j] = some ⟨intRange 0 j.toNat, none⟩ := by
  have : -(2 ^ 62) ≤ j ∧ j < 2 ^ 62 := by omega
  simp only [rngI]
  rw [if_pos this]
theorem rng2 {i j : Int} (h : j < 1000000) (h0 : 0 ≤ j) (h1 : i < 1000000) (h2 : 0 ≤ i) : rngI [.int i, .int j] = some ⟨intRange i (j - i).toNat, none⟩ := by
  have : -(2 ^ 62) ≤ i ∧ i < 2 ^ 62 ∧ -(2 ^ 62) ≤ j ∧ j < 2 ^ 62 := by omega
  simp only [rngI]
  rw [if_pos this]
theorem rngN {k : Nat} (h : k < 1000000) : rngI [.int (k : Int)] = some ⟨intRange 0 k, none⟩ := rng1 (by omega) (by omega)
end DI

set_option Elab.async false
set_option linter.all false
set_option maxRecDepth 100000
set_option maxHeartbeats 8000000
namespace K04
open PySem PySem.Spec L2 DI
open PyProof.Rows hiding St
/-! the text -/
def top (i : Nat) : Stmt := PySem.Challenge.pw_coveredtree_k04_lines_and_wishes_looked.main.body.getD i (.Pass ⟨0, 0, 0, 0⟩)
/-! is_whole -/
noncomputable def b0_s1 (call : CallF) : SM := sRet (mAndV (mApN isiO (mCons (mVar 0) (mCons (mC (.ty "int")) mNil))) (mNotV (mApN isiO (mCons (mVar 0) (mCons (mC (.ty "bool")) mNil)))))
noncomputable def b0 (call : CallF) : SM := b0_s1 call
abbrev s0 : Stmt := top 1
def d0 : He.DefD := ⟨("is_whole", none), "is_whole", "is_whole", defArgs s0, defBody s0, defScope s0, [], []⟩
noncomputable def p0 : PD := ⟨1, ["thing"], [], [], d0, b0⟩
/-! is_line -/
noncomputable def b1_s1 (call : CallF) : SM := sRet (mAndV (mApN isiO (mCons (mVar 1) (mCons (mC (.ty "tuple")) mNil))) (mAndV (mAp2 (cmpS .Eq) (mApN lenO (mCons (mVar 1) mNil)) (mAp2 (binS .Add) (mVar 0) (mC (.int 1)))) (mApN allO (mCons (mLc (mItV (mVar 1)) [2] (.nm 2) (mYes) (mCall call 0 (mCons (mVar 2) mNil) [])) mNil))))
noncomputable def b1 (call : CallF) : SM := b1_s1 call
abbrev s1 : Stmt := top 4
def d1 : He.DefD := ⟨("is_line", none), "is_line", "is_line", defArgs s1, defBody s1, defScope s1, [], []⟩
noncomputable def p1 : PD := ⟨2, ["many", "thing", "number"], [], [], d1, b1⟩
/-! is_wish -/
noncomputable def b2_s1 (call : CallF) : SM := sIf (mOrT (mNotT (mTru (mApN isiO (mCons (mVar 1) (mCons (mC (.ty "tuple")) mNil))))) (mOrT (mCmpT .NotEq (mApN lenO (mCons (mVar 1) mNil)) (mC (.int 2))) (mNotT (mTru (mApN isiO (mCons (mAp2 ixO (mVar 1) (mC (.int 0))) (mCons (mC (.ty "str")) mNil))))))) (sRet (mC (.bl false))) sNx
noncomputable def b2_s2 (call : CallF) : SM := sRet (mAndV (mAp2 (cmpS .In) (mAp2 ixO (mVar 1) (mC (.int 0))) (mC (.tup [.str "least", .str "above"]))) (mCall call 1 (mCons (mVar 0) (mCons (mAp2 ixO (mVar 1) (mC (.int 1))) mNil)) []))
noncomputable def b2 (call : CallF) : SM := sSeq (b2_s1 call) (b2_s2 call)
abbrev s2 : Stmt := top 5
def d2 : He.DefD := ⟨("is_wish", none), "is_wish", "is_wish", defArgs s2, defBody s2, defScope s2, [], []⟩
noncomputable def p2 : PD := ⟨2, ["many", "thing"], [], [], d2, b2⟩
/-! _law_pool -/
noncomputable def b3_i1 (call : CallF) : SM := sAsg (.nm 2) (mAp2 ixO (mVar 0) (mVar 1))
noncomputable def b3_s2 (call : CallF) : SM := sAsg (.nm 3) (mApN maxO (mCons (mVar 2) (mCons (mAp2 (binS .Sub) (mAp1 (unS .USub) (mC (.int 1))) (mVar 2)) mNil)))
noncomputable def b3_s3 (call : CallF) : SM := sAsg (.nm 4) (mAp2 (binS .Mod) (mAp2 (binS .Add) (mAp2 (binS .Add) (mAp2 (binS .Mult) (mAp2 (binS .Mod) (mVar 3) (mC (.int 2147483629))) (mC (.int 16807))) (mAp2 (binS .Mult) (mC (.int 104729)) (mVar 1))) (mC (.int 11))) (mC (.int 2147483647)))
noncomputable def b3_s4 (call : CallF) : SM := sIf (mCmpT .Lt (mVar 3) (mAp2 (binS .Pow) (mC (.int 10)) (mC (.int 18)))) (sAsg (.nm 3) (mC (.int 0))) sNx
noncomputable def b3 (call : CallF) : SM := sSeq (sAsg (.nm 2) (mC (.int 0))) (sSeq (sIf (mCmpT .Lt (mVar 1) (mApN lenO (mCons (mVar 0) mNil))) (b3_i1 call) sNx) (sSeq (b3_s2 call) (sSeq (b3_s3 call) (sSeq (b3_s4 call) (sRet (mApN newL (mCons (mVar 3) (mCons (mVar 4) mNil))))))))
abbrev s3 : Stmt := top 7
def d3 : He.DefD := ⟨("_law_pool", none), "_law_pool", "_law_pool", defArgs s3, defBody s3, defScope s3, [], []⟩
noncomputable def p3 : PD := ⟨2, ["_law_script", "_law_k", "_law_cell", "_law_number", "_law_seed"], [], [(21, 11)], d3, b3⟩
/-! _law_take -/
noncomputable def b4_i1 (call : CallF) : SM := sSeq (sAsg (.nm 2) (mAp2 (binS .Mod) (mAp2 ixO (mVar 0) (mC (.int 0))) (mVar 1))) (sSeq (sSetIx (mVar 0) (mC (.int 0)) (mAp2 (binS .FloorDiv) (mAp2 ixO (mVar 0) (mC (.int 0))) (mVar 1))) (sRet (mVar 2)))
noncomputable def b4_s2 (call : CallF) : SM := sSetIx (mVar 0) (mC (.int 1)) (mAp2 (binS .Mod) (mAp2 (binS .Add) (mAp2 (binS .Mult) (mAp2 ixO (mVar 0) (mC (.int 1))) (mC (.int 48271))) (mC (.int 11))) (mC (.int 2147483647)))
noncomputable def b4_s3 (call : CallF) : SM := sRet (mAp2 (binS .Mod) (mAp2 (binS .FloorDiv) (mAp2 (binS .Mod) (mAp2 (binS .Mult) (mAp2 ixO (mVar 0) (mC (.int 1))) (mAp2 ixO (mVar 0) (mC (.int 1)))) (mC (.int 2147483629))) (mC (.int 64))) (mVar 1))
noncomputable def b4 (call : CallF) : SM := sSeq (sIf (mCmpT .Gt (mAp2 ixO (mVar 0) (mC (.int 0))) (mC (.int 0))) (b4_i1 call) sNx) (sSeq (b4_s2 call) (b4_s3 call))
abbrev s4 : Stmt := top 8
def d4 : He.DefD := ⟨("_law_take", none), "_law_take", "_law_take", defArgs s4, defBody s4, defScope s4, [], []⟩
noncomputable def p4 : PD := ⟨2, ["_law_pool_here", "_law_many", "_law_digit"], [], [], d4, b4⟩
/-! _law_line -/
noncomputable def b5_s1 (call : CallF) : SM := sAsg (.nm 2) (mApN newL (mCons (mAp2 ixO (mApN lstO (mCons (mC (.int 0)) (mCons (mC (.int 1)) (mCons (mAp1 (unS .USub) (mC (.int 1))) (mCons (mC (.int 2)) (mCons (mAp1 (unS .USub) (mC (.int 3))) (mCons (mC (.int 5)) (mCons (mC (.int 10)) (mCons (mAp1 (unS .USub) (mC (.int 7))) mNil))))))))) (mCall call 4 (mCons (mVar 0) (mCons (mC (.int 8)) mNil)) [])) mNil))
noncomputable def b5_s2 (call : CallF) : SM := sDrop (mApp (mVar 2) (mCons (mAp2 ixO (mApN lstO (mCons (mC (.int 0)) (mCons (mC (.int 0)) (mCons (mC (.int 1)) (mCons (mC (.int 1)) (mCons (mAp1 (unS .USub) (mC (.int 1))) (mCons (mAp1 (unS .USub) (mC (.int 1))) (mCons (mC (.int 2)) (mCons (mAp1 (unS .USub) (mC (.int 3))) mNil))))))))) (mCall call 4 (mCons (mVar 0) (mCons (mC (.int 8)) mNil)) [])) mNil))
noncomputable def b5 (call : CallF) : SM := sSeq (b5_s1 call) (sSeq (sFor (mItR (mCons (mVar 1) mNil)) (.nm 3) (b5_s2 call)) (sRet (mApN tupleO (mCons (mVar 2) mNil))))
abbrev s5 : Stmt := top 9
def d5 : He.DefD := ⟨("_law_line", none), "_law_line", "_law_line", defArgs s5, defBody s5, defScope s5, [], []⟩
noncomputable def p5 : PD := ⟨2, ["_law_pool_here", "_law_many", "_law_line_here", "_law_box"], [], [(30, 21)], d5, b5⟩
/-! _law_wish -/
noncomputable def b6_s1 (call : CallF) : SM := sRet (mApN tupO (mCons (mAp2 ixO (mApN lstO (mCons (mC (.str "least")) (mCons (mC (.str "least")) (mCons (mC (.str "above")) mNil)))) (mCall call 4 (mCons (mVar 0) (mCons (mC (.int 3)) mNil)) [])) (mCons (mCall call 5 (mCons (mVar 0) (mCons (mVar 1) mNil)) []) mNil)))
noncomputable def b6 (call : CallF) : SM := b6_s1 call
abbrev s6 : Stmt := top 10
def d6 : He.DefD := ⟨("_law_wish", none), "_law_wish", "_law_wish", defArgs s6, defBody s6, defScope s6, [], []⟩
noncomputable def p6 : PD := ⟨2, ["_law_pool_here", "_law_many"], [], [], d6, b6⟩
/-! _law_is_line -/
noncomputable def b7_s1 (call : CallF) : SM := sIf (mOrT (mNotT (mTru (mApN isiO (mCons (mVar 1) (mCons (mC (.ty "tuple")) mNil))))) (mCmpT .NotEq (mApN lenO (mCons (mVar 1) mNil)) (mAp2 (binS .Add) (mVar 0) (mC (.int 1))))) (sRet (mC (.bl false))) sNx
noncomputable def b7_s2 (call : CallF) : SM := sRet (mAp2 (cmpS .Eq) (mLc (mItV (mVar 1)) [2] (.nm 2) (mOrT (mNotT (mTru (mApN isiO (mCons (mVar 2) (mCons (mC (.ty "int")) mNil))))) (mTru (mApN isiO (mCons (mVar 2) (mCons (mC (.ty "bool")) mNil))))) (mVar 2)) (mApN lstO (mNil)))
noncomputable def b7 (call : CallF) : SM := sSeq (b7_s1 call) (b7_s2 call)
abbrev s7 : Stmt := top 11
def d7 : He.DefD := ⟨("_law_is_line", none), "_law_is_line", "_law_is_line", defArgs s7, defBody s7, defScope s7, [], []⟩
noncomputable def p7 : PD := ⟨2, ["_law_many", "_law_thing", "_law_part"], [], [], d7, b7⟩
/-! _law_is_wish -/
noncomputable def b8_s1 (call : CallF) : SM := sIf (mOrT (mNotT (mTru (mApN isiO (mCons (mVar 1) (mCons (mC (.ty "tuple")) mNil))))) (mOrT (mCmpT .NotEq (mApN lenO (mCons (mVar 1) mNil)) (mC (.int 2))) (mNotT (mTru (mApN isiO (mCons (mAp2 ixO (mVar 1) (mC (.int 0))) (mCons (mC (.ty "str")) mNil))))))) (sRet (mC (.bl false))) sNx
noncomputable def b8_s2 (call : CallF) : SM := sRet (mAndV (mAp2 (cmpS .In) (mAp2 ixO (mVar 1) (mC (.int 0))) (mApN lstO (mCons (mC (.str "least")) (mCons (mC (.str "above")) mNil)))) (mCall call 7 (mCons (mVar 0) (mCons (mAp2 ixO (mVar 1) (mC (.int 1))) mNil)) []))
noncomputable def b8 (call : CallF) : SM := sSeq (b8_s1 call) (b8_s2 call)
abbrev s8 : Stmt := top 12
def d8 : He.DefD := ⟨("_law_is_wish", none), "_law_is_wish", "_law_is_wish", defArgs s8, defBody s8, defScope s8, [], []⟩
noncomputable def p8 : PD := ⟨2, ["_law_many", "_law_thing"], [], [], d8, b8⟩
/-! _law_bent -/
noncomputable def b9_s1 (call : CallF) : SM := sAsg (.nm 3) (mAp2 ixO (mApN lstO (mCons (mC (.bl true)) (mCons (mC (.non)) (mCons (mC (.str "1")) (mCons (mApN tupO (mCons (mC (.int 1)) (mCons (mC (.int 1)) mNil))) (mCons (mApN lstO (mCons (mC (.int 1)) mNil)) (mCons (mC (.bl false)) (mCons (mAp1 (unS .USub) (mC (.int 5))) mNil)))))))) (mCall call 4 (mCons (mVar 0) (mCons (mC (.int 7)) mNil)) []))
noncomputable def b9_s2 (call : CallF) : SM := sAsg (.nm 4) (mApN lstO (mCons (mAp2 (binS .Add) (mSl (mVar 1) (mNoP) (mPart (mVar 2))) (mSl (mVar 1) (mPart (mAp2 (binS .Add) (mVar 2) (mC (.int 1)))) (mNoP))) (mCons (mAp2 (binS .Add) (mVar 1) (mApN tupO (mCons (mC (.int 0)) mNil))) (mCons (mAp2 (binS .Add) (mAp2 (binS .Add) (mSl (mVar 1) (mNoP) (mPart (mVar 2))) (mApN tupO (mCons (mVar 3) mNil))) (mSl (mVar 1) (mPart (mAp2 (binS .Add) (mVar 2) (mC (.int 1)))) (mNoP))) mNil))))
noncomputable def b9_s3 (call : CallF) : SM := sAsg (.nm 4) (mAp2 (binS .Add) (mVar 4) (mApN lstO (mCons (mApN listO (mCons (mVar 1) mNil)) (mCons (mC (.non)) (mCons (mApN tupO (mCons (mVar 1) mNil)) (mCons (mVar 1) mNil))))))
noncomputable def b9 (call : CallF) : SM := sSeq (sAsg (.nm 2) (mCall call 4 (mCons (mVar 0) (mCons (mApN lenO (mCons (mVar 1) mNil)) mNil)) [])) (sSeq (b9_s1 call) (sSeq (b9_s2 call) (sSeq (b9_s3 call) (sRet (mAp2 ixO (mVar 4) (mCall call 4 (mCons (mVar 0) (mCons (mC (.int 7)) mNil)) []))))))
abbrev s9 : Stmt := top 13
def d9 : He.DefD := ⟨("_law_bent", none), "_law_bent", "_law_bent", defArgs s9, defBody s9, defScope s9, [], []⟩
noncomputable def p9 : PD := ⟨2, ["_law_pool_here", "_law_line_here", "_law_at", "_law_odd", "_law_some"], [], [], d9, b9⟩
/-! law -/
noncomputable def b10_s1 (call : CallF) : SM := sAsg (.nm 6) (mAp2 ixO (mApN lstO (mCons (mC (.str "least")) (mCons (mC (.str "above")) (mCons (mC (.str "just")) (mCons (mC (.str "Least")) (mCons (mC (.str "")) (mCons (mC (.non)) (mCons (mC (.int 0)) (mCons (mApN tupO (mCons (mC (.str "least")) mNil)) (mCons (mC (.str "least above")) mNil)))))))))) (mCall call 4 (mCons (mVar 2) (mCons (mC (.int 9)) mNil)) []))
noncomputable def b10_s2 (call : CallF) : SM := sAsg (.nm 7) (mApN lstO (mCons (mVar 4) (mCons (mVar 5) (mCons (mApN tupO (mNil)) (mCons (mC (.non)) (mCons (mC (.str "line")) (mCons (mAp2 (binS .Mult) (mApN lstO (mCons (mC (.int 0)) mNil)) (mAp2 (binS .Add) (mVar 3) (mC (.int 1)))) (mCons (mAp2 (binS .Mult) (mApN tupO (mCons (mC (.int 0)) mNil)) (mAp2 (binS .Add) (mVar 3) (mC (.int 1)))) (mCons (mC (.bl true)) (mCons (mC (.int 5)) (mCons (mC (.dct [])) mNil)))))))))))
noncomputable def b10_s3 (call : CallF) : SM := sIf (mCmpT .NotEq (mApN reprO (mCons (mCall call 1 (mCons (mVar 10) (mCons (mVar 8) mNil)) []) mNil)) (mApN reprO (mCons (mCall call 7 (mCons (mVar 10) (mCons (mVar 8) mNil)) []) mNil))) (sRet (mC (.bl false))) sNx
noncomputable def b10_s4 (call : CallF) : SM := sIf (mOrT (mCmpT .NotEq (mApN reprO (mCons (mCall call 2 (mCons (mVar 10) (mCons (mVar 8) mNil)) []) mNil)) (mApN reprO (mCons (mCall call 8 (mCons (mVar 10) (mCons (mVar 8) mNil)) []) mNil))) (mCmpT .NotEq (mApN reprO (mCons (mVar 8) mNil)) (mVar 9))) (sRet (mC (.bl false))) sNx
noncomputable def b10_s5 (call : CallF) : SM := sFor (mItV (mApN lstO (mCons (mVar 3) (mCons (mAp2 (binS .Mod) (mAp2 (binS .Add) (mVar 3) (mC (.int 1))) (mC (.int 10))) mNil)))) (.nm 10) (sSeq (b10_s3 call) (b10_s4 call))
noncomputable def b10_l6 (call : CallF) : SM := sSeq (sAsg (.nm 9) (mApN reprO (mCons (mVar 8) mNil))) (b10_s5 call)
noncomputable def b10_s7 (call : CallF) : SM := sFor (mItV (mAp2 (binS .Add) (mVar 7) (mApN lstO (mCons (mApN tupO (mCons (mC (.str "least")) (mCons (mVar 4) mNil))) (mCons (mApN tupO (mCons (mC (.str "above")) (mCons (mVar 4) mNil))) (mCons (mApN tupO (mCons (mC (.str "least")) (mCons (mVar 5) mNil))) (mCons (mApN tupO (mCons (mVar 6) (mCons (mVar 4) mNil))) (mCons (mApN lstO (mCons (mVar 6) (mCons (mVar 4) mNil))) mNil)))))))) (.nm 8) (b10_l6 call)
noncomputable def b10_s8 (call : CallF) : SM := sAsg (.nm 5) (mApN lstO (mCons (mApN tupO (mCons (mApN lstO (mCons (mC (.str "least")) mNil)) (mCons (mVar 4) mNil))) (mCons (mApN tupO (mCons (mC (.dct [])) (mCons (mVar 4) mNil))) (mCons (mApN tupO (mCons (mC (.str "least")) (mCons (mVar 4) (mCons (mVar 4) mNil)))) (mCons (mApN tupO (mCons (mC (.str "least")) mNil)) (mCons (mApN tupO (mCons (mVar 4) (mCons (mC (.str "least")) mNil))) mNil))))))
noncomputable def b10_s9 (call : CallF) : SM := sIf (mCmpT .IsNot (mCall call 2 (mCons (mVar 3) (mCons (mVar 8) mNil)) []) (mC (.bl false))) (sRet (mC (.bl false))) sNx
noncomputable def b10_s10 (call : CallF) : SM := sFor (mItV (mAp2 (binS .Add) (mVar 5) (mApN lstO (mCons (mApN tupO (mCons (mC (.str "above")) (mCons (mVar 4) (mCons (mC (.non)) mNil)))) mNil)))) (.nm 8) (b10_s9 call)
noncomputable def b10_l11 (call : CallF) : SM := sSeq (sAsg (.nm 2) (mCall call 3 (mCons (mVar 0) (mCons (mVar 1) mNil)) [])) (sSeq (sAsg (.nm 3) (mCall call 4 (mCons (mVar 2) (mCons (mC (.int 10)) mNil)) [])) (sSeq (sAsg (.nm 4) (mCall call 5 (mCons (mVar 2) (mCons (mVar 3) mNil)) [])) (sSeq (sAsg (.nm 5) (mCall call 9 (mCons (mVar 2) (mCons (mVar 4) mNil)) [])) (sSeq (b10_s1 call) (sSeq (b10_s2 call) (sSeq (b10_s7 call) (sSeq (b10_s8 call) (b10_s10 call))))))))
noncomputable def b10_s12 (call : CallF) : SM := sFor (mItR (mCons (mApN maxO (mCons (mC (.int 1)) (mCons (mApN minO (mCons (mApN lenO (mCons (mVar 0) mNil)) (mCons (mC (.int 40)) mNil))) mNil))) mNil)) (.nm 1) (b10_l11 call)
noncomputable def b10 (call : CallF) : SM := sSeq (b10_s12 call) (sRet (mC (.bl true)))
abbrev s10 : Stmt := top 14
def d10 : He.DefD := ⟨("law", none), "law", "law", defArgs s10, defBody s10, defScope s10, [], []⟩
noncomputable def p10 : PD := ⟨1, ["_law_script", "_law_k", "_law_pool_here", "_law_many", "_law_line_here", "_law_bent_here", "_law_word", "_law_some", "_law_thing", "_law_kept", "_law_size"], [], [], d10, b10⟩
noncomputable def fs : List PD := [p0, p1, p2, p3, p4, p5, p6, p7, p8, p9, p10]
def nms : List Str := ["is_whole", "is_line", "is_wish", "_law_pool", "_law_take", "_law_line", "_law_wish", "_law_is_line", "_law_is_wish", "_law_bent", "law"]
def gl : List (Str × D) := [("is_whole", .fn 0), ("is_line", .fn 1), ("is_wish", .fn 2), ("_law_pool", .fn 3), ("_law_take", .fn 4), ("_law_line", .fn 5), ("_law_wish", .fn 6), ("_law_is_line", .fn 7), ("_law_is_wish", .fn 8), ("_law_bent", .fn 9), ("law", .fn 10), ("WORDS", .tup [.str "least", .str "above"])]
def no : List Str := ["isinstance", "bool", "int", "all", "len", "tuple", "str", "max", "range", "list", "min", "repr"]
def fn : List He.DefD := [d0, d1, d2, d3, d4, d5, d6, d7, d8, d9, d10]
theorem t0 : TrD fs gl no p0 := fun call => ⟨60, 30, by kernel_rfl⟩
theorem t1 : TrD fs gl no p1 := fun call => ⟨60, 30, by kernel_rfl⟩
theorem t2 : TrD fs gl no p2 := fun call => ⟨60, 30, by kernel_rfl⟩
theorem t3 : TrD fs gl no p3 := fun call => ⟨60, 30, by kernel_rfl⟩
theorem t4 : TrD fs gl no p4 := fun call => ⟨60, 30, by kernel_rfl⟩
theorem t5 : TrD fs gl no p5 := fun call => ⟨60, 30, by kernel_rfl⟩
theorem t6 : TrD fs gl no p6 := fun call => ⟨60, 30, by kernel_rfl⟩
theorem t7 : TrD fs gl no p7 := fun call => ⟨60, 30, by kernel_rfl⟩
theorem t8 : TrD fs gl no p8 := fun call => ⟨60, 30, by kernel_rfl⟩
theorem t9 : TrD fs gl no p9 := fun call => ⟨60, 30, by kernel_rfl⟩
theorem t10 : TrD fs gl no p10 := fun call => ⟨60, 30, by kernel_rfl⟩
theorem c0 : FnScope p0.N ["thing"] p0.d.scope := ⟨by kernel_rfl, by kernel_rfl, by kernel_rfl, by decide +kernel, by kernel_rfl, by decide +kernel, by decide +kernel⟩
theorem c1 : FnScope p1.N ["many", "thing"] p1.d.scope := ⟨by kernel_rfl, by kernel_rfl, by kernel_rfl, by decide +kernel, by kernel_rfl, by decide +kernel, by decide +kernel⟩
theorem c2 : FnScope p2.N ["many", "thing"] p2.d.scope := ⟨by kernel_rfl, by kernel_rfl, by kernel_rfl, by decide +kernel, by kernel_rfl, by decide +kernel, by decide +kernel⟩
theorem c3 : FnScope p3.N ["_law_script", "_law_k"] p3.d.scope := ⟨by kernel_rfl, by kernel_rfl, by kernel_rfl, by decide +kernel, by kernel_rfl, by decide +kernel, by decide +kernel⟩
theorem c4 : FnScope p4.N ["_law_pool_here", "_law_many"] p4.d.scope := ⟨by kernel_rfl, by kernel_rfl, by kernel_rfl, by decide +kernel, by kernel_rfl, by decide +kernel, by decide +kernel⟩
theorem c5 : FnScope p5.N ["_law_pool_here", "_law_many"] p5.d.scope := ⟨by kernel_rfl, by kernel_rfl, by kernel_rfl, by decide +kernel, by kernel_rfl, by decide +kernel, by decide +kernel⟩
theorem c6 : FnScope p6.N ["_law_pool_here", "_law_many"] p6.d.scope := ⟨by kernel_rfl, by kernel_rfl, by kernel_rfl, by decide +kernel, by kernel_rfl, by decide +kernel, by decide +kernel⟩
theorem c7 : FnScope p7.N ["_law_many", "_law_thing"] p7.d.scope := ⟨by kernel_rfl, by kernel_rfl, by kernel_rfl, by decide +kernel, by kernel_rfl, by decide +kernel, by decide +kernel⟩
theorem c8 : FnScope p8.N ["_law_many", "_law_thing"] p8.d.scope := ⟨by kernel_rfl, by kernel_rfl, by kernel_rfl, by decide +kernel, by kernel_rfl, by decide +kernel, by decide +kernel⟩
theorem c9 : FnScope p9.N ["_law_pool_here", "_law_line_here"] p9.d.scope := ⟨by kernel_rfl, by kernel_rfl, by kernel_rfl, by decide +kernel, by kernel_rfl, by decide +kernel, by decide +kernel⟩
theorem c10 : FnScope p10.N ["_law_script"] p10.d.scope := ⟨by kernel_rfl, by kernel_rfl, by kernel_rfl, by decide +kernel, by kernel_rfl, by decide +kernel, by decide +kernel⟩
theorem e0 (n : Nat) (ds : List D) (m : Sto) : callD fs (n + 1) 0 ds m = fin (b0 (callD fs n) (startE p0.N.length ds) m) := rfl
theorem e1 (n : Nat) (ds : List D) (m : Sto) : callD fs (n + 1) 1 ds m = fin (b1 (callD fs n) (startE p1.N.length ds) m) := rfl
theorem e2 (n : Nat) (ds : List D) (m : Sto) : callD fs (n + 1) 2 ds m = fin (b2 (callD fs n) (startE p2.N.length ds) m) := rfl
theorem e3 (n : Nat) (ds : List D) (m : Sto) : callD fs (n + 1) 3 ds m = fin (b3 (callD fs n) (startE p3.N.length ds) m) := rfl
theorem e4 (n : Nat) (ds : List D) (m : Sto) : callD fs (n + 1) 4 ds m = fin (b4 (callD fs n) (startE p4.N.length ds) m) := rfl
theorem e5 (n : Nat) (ds : List D) (m : Sto) : callD fs (n + 1) 5 ds m = fin (b5 (callD fs n) (startE p5.N.length ds) m) := rfl
theorem e6 (n : Nat) (ds : List D) (m : Sto) : callD fs (n + 1) 6 ds m = fin (b6 (callD fs n) (startE p6.N.length ds) m) := rfl
theorem e7 (n : Nat) (ds : List D) (m : Sto) : callD fs (n + 1) 7 ds m = fin (b7 (callD fs n) (startE p7.N.length ds) m) := rfl
theorem e8 (n : Nat) (ds : List D) (m : Sto) : callD fs (n + 1) 8 ds m = fin (b8 (callD fs n) (startE p8.N.length ds) m) := rfl
theorem e9 (n : Nat) (ds : List D) (m : Sto) : callD fs (n + 1) 9 ds m = fin (b9 (callD fs n) (startE p9.N.length ds) m) := rfl
theorem e10 (n : Nat) (ds : List D) (m : Sto) : callD fs (n + 1) 10 ds m = fin (b10 (callD fs n) (startE p10.N.length ds) m) := rfl
theorem ht : ∀ (i : Nat) (p : PD), fs[i]? = some p → TrD fs gl no p
  | 0, _, h => by cases h; exact t0
  | 1, _, h => by cases h; exact t1
  | 2, _, h => by cases h; exact t2
  | 3, _, h => by cases h; exact t3
  | 4, _, h => by cases h; exact t4
  | 5, _, h => by cases h; exact t5
  | 6, _, h => by cases h; exact t6
  | 7, _, h => by cases h; exact t7
  | 8, _, h => by cases h; exact t8
  | 9, _, h => by cases h; exact t9
  | 10, _, h => by cases h; exact t10
  | _ + 11, _, h => by cases h
theorem hd (K : PySem.W.Frag) (c : TellsX (chkB nms [] gl no) fn K) : ∀ (i : Nat) (p : PD), fs[i]? = some p → ∃ f, (gOf nms [] K).fa i = some f ∧ DefOk (gOf nms [] K) K p f
  | 0, _, h => by
    cases h; obtain ⟨fd, F⟩ := c.def_ (i := 0) (z := d0) rfl
    exact ⟨_, rfl, defOk0 (p := p0) F rfl _ c0 rfl fun _ _ _ _ _ _ us hl => match us, hl with | [_], _ => by kernel_rfl⟩
  | 1, _, h => by
    cases h; obtain ⟨fd, F⟩ := c.def_ (i := 1) (z := d1) rfl
    exact ⟨_, rfl, defOk0 (p := p1) F rfl _ c1 rfl fun _ _ _ _ _ _ us hl => match us, hl with | [_, _], _ => by kernel_rfl⟩
  | 2, _, h => by
    cases h; obtain ⟨fd, F⟩ := c.def_ (i := 2) (z := d2) rfl
    exact ⟨_, rfl, defOk0 (p := p2) F rfl _ c2 rfl fun _ _ _ _ _ _ us hl => match us, hl with | [_, _], _ => by kernel_rfl⟩
  | 3, _, h => by
    cases h; obtain ⟨fd, F⟩ := c.def_ (i := 3) (z := d3) rfl
    exact ⟨_, rfl, defOk0 (p := p3) F rfl _ c3 rfl fun _ _ _ _ _ _ us hl => match us, hl with | [_, _], _ => by kernel_rfl⟩
  | 4, _, h => by
    cases h; obtain ⟨fd, F⟩ := c.def_ (i := 4) (z := d4) rfl
    exact ⟨_, rfl, defOk0 (p := p4) F rfl _ c4 rfl fun _ _ _ _ _ _ us hl => match us, hl with | [_, _], _ => by kernel_rfl⟩
  | 5, _, h => by
    cases h; obtain ⟨fd, F⟩ := c.def_ (i := 5) (z := d5) rfl
    exact ⟨_, rfl, defOk0 (p := p5) F rfl _ c5 rfl fun _ _ _ _ _ _ us hl => match us, hl with | [_, _], _ => by kernel_rfl⟩
  | 6, _, h => by
    cases h; obtain ⟨fd, F⟩ := c.def_ (i := 6) (z := d6) rfl
    exact ⟨_, rfl, defOk0 (p := p6) F rfl _ c6 rfl fun _ _ _ _ _ _ us hl => match us, hl with | [_, _], _ => by kernel_rfl⟩
  | 7, _, h => by
    cases h; obtain ⟨fd, F⟩ := c.def_ (i := 7) (z := d7) rfl
    exact ⟨_, rfl, defOk0 (p := p7) F rfl _ c7 rfl fun _ _ _ _ _ _ us hl => match us, hl with | [_, _], _ => by kernel_rfl⟩
  | 8, _, h => by
    cases h; obtain ⟨fd, F⟩ := c.def_ (i := 8) (z := d8) rfl
    exact ⟨_, rfl, defOk0 (p := p8) F rfl _ c8 rfl fun _ _ _ _ _ _ us hl => match us, hl with | [_, _], _ => by kernel_rfl⟩
  | 9, _, h => by
    cases h; obtain ⟨fd, F⟩ := c.def_ (i := 9) (z := d9) rfl
    exact ⟨_, rfl, defOk0 (p := p9) F rfl _ c9 rfl fun _ _ _ _ _ _ us hl => match us, hl with | [_, _], _ => by kernel_rfl⟩
  | 10, _, h => by
    cases h; obtain ⟨fd, F⟩ := c.def_ (i := 10) (z := d10) rfl
    exact ⟨_, rfl, defOk0 (p := p10) F rfl _ c10 rfl fun _ _ _ _ _ _ us hl => match us, hl with | [_], _ => by kernel_rfl⟩
  | _ + 11, _, h => by cases h
def loose : List Str := ["is_whole", "is_line", "is_wish", "_law_pool", "_law_take", "_law_line", "_law_wish", "_law_is_line", "_law_is_wish", "_law_bent", "WORDS"]
abbrev R : PySem.W.OpenRow := PySem.W.OpenLaw.row PySem.Challenge.rw_coveredtree_k04_lines_and_wishes_looked
abbrev hk : PySem.W.Hook := hookX 4 (chkB nms [] gl no) fn
def ob (s : PySem.W.SharedT) : He.AlD := obsXG 4 (chkB nms [] gl no) fn (HandSHeadRun.getT s)
theorem ob_eq (s : PySem.W.SharedT) : ob s = hk.obs s.abs := obsXG_eq (HandSHeadRun.getT_eq s)
theorem run (w : World) : HandSHeadRun.RunEq R (PySem.W.view R.prog [14]) hk ob 4000 loose w := by
  intro os
  kernel_rfl
end K04

set_option Elab.async false
set_option linter.all false
set_option maxRecDepth 100000
set_option maxHeartbeats 2000000
namespace K04
open PySem PySem.Spec L2 DI
def Pool (m : Sto) (l : Nat) : Prop := ∃ a b : Int, m[l]? = some (.lst [.int a, .int b]) ∧ 0 ≤ a ∧ 0 ≤ b ∧ b < 2147483647
theorem take0 (n l : Nat) (k a b : Int) (m : Sto) (h : m[l]? = some (.lst [.int a, .int b])) (ha : 0 ≤ a) (hb : 0 ≤ b) (hb2 : b < 2147483647) (hk : 0 < k) (hk2 : k < 2147483648) :
    ∃ r a' b', callD fs (n + 1) 4 [.ref l, .int k] m = .ok (.int r) (m.set l (.lst [.int a', .int b'])) ∧ 0 ≤ r ∧ r < k ∧ 0 ≤ a' ∧ 0 ≤ b' ∧ b' < 2147483647 := by
  rw [e4]
  have hl : l < m.length := (List.getElem?_eq_some_iff.mp h).1
  have N : p4.N.length = 3 := rfl
  have x0 : ∀ c d : D, atI [c, d] 0 = some c := fun _ _ => rfl
  have x1 : ∀ c d : D, atI [c, d] 1 = some d := fun _ _ => rfl
  have i0 : ixN 2 0 = some 0 := rfl
  have i1 : ixN 2 1 = some 1 := rfl
  by_cases h0 : 0 < a
  · refine ⟨a % k, a / k, b, ?_, Int.emod_nonneg _ (by omega), Int.emod_lt_of_pos _ hk, Int.ediv_nonneg ha (by omega), hb, hb2⟩
    simp [b4, b4_i1, startE, N, x_ref _ _ _ h, x0, h0, v_modP _ _ _ hk, v_divP _ _ _ hk (by omega), set_ref _ _ _ _ h i0]
  · have h0 : a = 0 := by omega
    subst h0
    refine ⟨(((b * 48271 + 11) % 2147483647) * ((b * 48271 + 11) % 2147483647)) % 2147483629 / 64 % k, 0, (b * 48271 + 11) % 2147483647, ?_, Int.emod_nonneg _ (by omega), Int.emod_lt_of_pos _ hk, by omega, by omega, by omega⟩
    have hm : (m.set l (.lst [.int 0, .int ((b * 48271 + 11) % 2147483647)]))[l]? = some (.lst [.int 0, .int ((b * 48271 + 11) % 2147483647)]) := List.getElem?_set_self hl
    simp [b4, b4_s2, b4_s3, startE, N, x_ref _ _ _ h, x0, x1, v_mul _ b 48271 (by omega) (by omega), v_modP _ _ 2147483647 (by omega) , set_ref _ _ _ _ h i1, x_ref _ _ _ hm, v_mul _ ((b * 48271 + 11) % 2147483647) ((b * 48271 + 11) % 2147483647) (by omega) (by omega), v_modP _ _ 2147483629 (by omega), v_divP _ _ 64 (by omega) (by omega), v_modP _ _ k hk]
theorem take_ (n l : Nat) (k : Int) (m : Sto) (p : Pool m l) (hk : 0 < k) (hk2 : k < 2147483648) :
    ∃ r m', callD fs (n + 1) 4 [.ref l, .int k] m = .ok (.int r) m' ∧ 0 ≤ r ∧ r < k ∧ Pool m' l ∧ m'.length = m.length ∧ ∀ j, j ≠ l → m'[j]? = m[j]? := by
  obtain ⟨a, b, h, ha, hb, hb2⟩ := p
  obtain ⟨r, a', b', e, h1, h2, h3, h4, h5⟩ := take0 n l k a b m h ha hb hb2 hk hk2
  have hl : l < m.length := (List.getElem?_eq_some_iff.mp h).1
  exact ⟨r, _, e, h1, h2, ⟨a', b', List.getElem?_set_self hl, h3, h4, h5⟩, List.length_set, fun j hj => List.getElem?_set_ne (Ne.symm hj)⟩
theorem pool0 (n : Nat) (ns : List Int) (k : Nat) (hk : k < 64) (m : Sto) : ∃ a b, callD fs (n + 1) 3 [.lst (ns.map D.int), .int k] m = .ok (.ref m.length) (m ++ [.lst [.int a, .int b]]) ∧ 0 ≤ a ∧ 0 ≤ b ∧ b < 2147483647 := by
  rw [e3]
  have N : p3.N.length = 5 := rfl
  have t : (10 : Int) ^ (18 : Int).toNat = 1000000000000000000 := by decide
  have key : ∀ c : Int, ∃ a b, fin (RS.seq (RS.nx [some (D.lst (ns.map D.int)), some (D.int k), some (D.int c), none, none] m) (sSeq (b3_s2 (callD fs n)) (sSeq (b3_s3 (callD fs n)) (sSeq (b3_s4 (callD fs n)) (sRet (mApN newL (mCons (mVar 3) (mCons (mVar 4) mNil)))))))) = .ok (.ref m.length) (m ++ [.lst [.int a, .int b]]) ∧ 0 ≤ a ∧ 0 ≤ b ∧ b < 2147483647 := by
    intro c
    obtain ⟨x, hx, h0⟩ : ∃ x : Int, (if -1 - c > c then -1 - c else c) = x ∧ 0 ≤ x := ⟨_, rfl, by split <;> omega⟩
    by_cases h1 : x < 1000000000000000000
    · simp [b3_s2, b3_s3, b3_s4, hx, v_mul _ (x % 2147483629) 16807 (by omega) (by omega), v_mul _ 104729 (k : Int) (by omega) (by omega), v_modP _ _ 2147483629 (by omega), v_modP _ _ 2147483647 (by omega), v_pow _ 10 18 (by decide), t, h1, new_mk]
      refine ⟨_, _, ⟨rfl, rfl⟩, ?_, ?_, ?_⟩ <;> omega
    · simp [b3_s2, b3_s3, b3_s4, hx, v_mul _ (x % 2147483629) 16807 (by omega) (by omega), v_mul _ 104729 (k : Int) (by omega) (by omega), v_modP _ _ 2147483629 (by omega), v_modP _ _ 2147483647 (by omega), v_pow _ 10 18 (by decide), t, h1, new_mk]
      refine ⟨_, _, ⟨rfl, rfl⟩, ?_, ?_, ?_⟩ <;> omega
  by_cases h : k < ns.length
  · have ha : atI (ns.map D.int) (k : Int) = some (.int ns[k]) := at_nn _ _ (by simp [h])
    have := key ns[k]
    simpa [b3, b3_i1, startE, N, h, ha] using this
  · have := key 0
    simpa [b3, startE, N, h] using this

/-- small ints -/
def SmI (d : D) : Prop := ∃ i : Int, d = .int i ∧ -10 ≤ i ∧ i ≤ 10
theorem pick {xs : List D} {n l : Nat} {m : Sto} (p : Pool m l) (hx : 0 < xs.length) (hx2 : xs.length < 1000) : ∃ r m' d, callD fs (n + 1) 4 [.ref l, .int xs.length] m = .ok (.int r) m' ∧ atI xs r = some d ∧ d ∈ xs ∧ Pool m' l ∧ m'.length = m.length ∧ ∀ j, j ≠ l → m'[j]? = m[j]? := by
  obtain ⟨r, m', e, h0, h1, p', hl, ho⟩ := take_ n l xs.length m p (by omega) (by omega)
  obtain ⟨d, a, b⟩ := at_mem h0 h1
  exact ⟨r, m', d, e, a, b, p', hl, ho⟩
def LineI (l k L : Nat) (ds : List D) (r : DI.Env) (mm : Sto) : Prop := ∃ bx xs, r = [some (D.ref l), some (D.int k), some (D.ref L), bx] ∧ Pool mm l ∧ mm[L]? = some (O.lst xs) ∧ xs.length + ds.length = k + 1 ∧ ∀ d ∈ xs, SmI d
abbrev draw1 : List D := [.int 0, .int 1, .int (-1), .int 2, .int (-3), .int 5, .int 10, .int (-7)]
abbrev draw2 : List D := [.int 0, .int 0, .int 1, .int 1, .int (-1), .int (-1), .int 2, .int (-3)]
theorem line_ (n l k : Nat) (hk : k < 12) (m : Sto) (p : Pool m l) : ∃ xs m', callD fs (n + 2) 5 [.ref l, .int k] m = .ok (.tup xs) m' ∧ xs.length = k + 1 ∧ (∀ d ∈ xs, SmI d) ∧ Pool m' l := by
  rw [e5]
  have N : p5.N.length = 4 := rfl
  have hl : l < m.length := by obtain ⟨a, b, h, _⟩ := p; exact (List.getElem?_eq_some_iff.mp h).1
  obtain ⟨r, m1, d, q1, q2, q3, q4, q5, q6⟩ := pick (n := n) (xs := draw1) p (by decide) (by decide)
  have q1 : callD fs (n + 1) 4 [.ref l, .int 8] m = .ok (.int r) m1 := q1
  have sd : SmI d := by
    simp only [draw1, List.mem_cons, List.not_mem_nil, or_false] at q3
    rcases q3 with rfl | rfl | rfl | rfl | rfl | rfl | rfl | rfl <;> exact ⟨_, rfl, by decide, by decide⟩
  have st : ∀ d ds r m, LineI l k m1.length (d :: ds) r m → ∃ r1 r2 m2, bindP (.nm 3) d r = some r1 ∧ (b5_s2 (callD fs (n + 1)) r1 m = .nx r2 m2 ∨ b5_s2 (callD fs (n + 1)) r1 m = .ct r2 m2) ∧ LineI l k m1.length ds r2 m2 := by
    rintro d ds r m ⟨bx, xs, rfl, pm, hm, hlen, hsm⟩
    obtain ⟨r2, m2, e, w1, w2, w3, w4, w5, w6⟩ := pick (n := n) (xs := draw2) pm (by decide) (by decide)
    have w1 : callD fs (n + 1) 4 [.ref l, .int 8] m = .ok (.int r2) m2 := w1
    have ne : m1.length ≠ l := by omega
    have hm2 := (w6 _ ne).trans hm
    have il : isLst (.ref m1.length) m = true := by simp [isLst, hm]
    have hl2 : m1.length < m2.length := (List.getElem?_eq_some_iff.mp hm2).1
    have ap : appO (.ref m1.length) [e] m2 = some (.non, m2.set m1.length (.lst (xs ++ [e]))) := by
      have : xs.length < lim := by unfold lim; rw [List.length_cons] at hlen; omega
      simp [appO, hm2, this]
    have run : b5_s2 (callD fs (n + 1)) [some (D.ref l), some (D.int k), some (D.ref m1.length), some d] m = .nx [some (D.ref l), some (D.int k), some (D.ref m1.length), some d] (m2.set m1.length (.lst (xs ++ [e]))) := by
      simp [b5_s2, il, w1, w2, ap]
    refine ⟨_, _, _, rfl, .inl run, some d, xs ++ [e], rfl, ?_, List.getElem?_set_self hl2, ?_, ?_⟩
    · obtain ⟨a, b, h, z⟩ := w4
      exact ⟨a, b, by rw [List.getElem?_set_ne ne]; exact h, z⟩
    · rw [List.length_append, List.length_singleton]; rw [List.length_cons] at hlen; omega
    · intro y hy
      rcases List.mem_append.mp hy with hy | hy
      · exact hsm y hy
      · rw [List.mem_singleton] at hy; subst hy
        simp only [draw2, List.mem_cons, List.not_mem_nil, or_false] at w3
        rcases w3 with rfl | rfl | rfl | rfl | rfl | rfl | rfl | rfl <;> exact ⟨_, rfl, by decide, by decide⟩
  obtain ⟨r3, m3, f1, bx, xs, rfl, f2, f3, f4, f5⟩ := for_left (it := intRange 0 k) (ds := intRange 0 k) (r := [some (D.ref l), some (D.int k), some (D.ref m1.length), none]) (m := m1 ++ [.lst [d]]) (LineI l k m1.length) st ⟨none, [d], rfl, by
    obtain ⟨a, b, h, z⟩ := q4
    exact ⟨a, b, by rw [List.getElem?_append_left (by omega)]; exact h, z⟩, by simp, by simp [intRange]; omega, by simpa using sd⟩
  have rg : rngI [.int (k : Int)] = some ⟨intRange 0 k, none⟩ := rngN (by omega)
  refine ⟨xs, m3, ?_, by simpa using f4, f5, f2⟩
  simp [b5, b5_s1, startE, N, q1, q2, rg, f1, tuple_ref _ _ f3]
end K04

set_option Elab.async false
set_option linter.all false
set_option maxRecDepth 100000
set_option maxHeartbeats 2000000
namespace K04
open PySem PySem.Spec L2 DI
/-! is_whole, is_line, is_wish -/
theorem whole_ (n : Nat) (d : D) (h : isFz d = true) (m : Sto) : callD fs (n + 1) 0 [d] m = .ok (.bl (isIntD d)) m := by
  rw [e0]
  have N : p0.N.length = 1 := rfl
  simp [b0, b0_s1, startE, N, isi_int _ _ h, isi_bool _ _ h]
  cases d <;> simp [isIntD, isBlD]
def lineB (s : Int) : D → Bool
  | .tup xs => decide ((xs.length : Int) = s + 1) && xs.all isIntD
  | _ => false
/-- a thing of plain parts, not too many -/
def Nice : D → Prop
  | .tup xs => (∀ x ∈ xs, isFz x = true) ∧ xs.length ≤ 1000
  | d => isFz d = true
theorem Nice.fz {d : D} (h : Nice d) : isFz d = true := by cases d <;> first | rfl | exact h
theorem all_bl (xs : List D) (m : Sto) (f : D → Bool) : allO [.lst (xs.map fun d => .bl (f d))] m = some (.bl (xs.all f), m) := by
  have : blsOf (xs.map fun d => D.bl (f d)) = some (xs.map f) := by
    induction xs with
    | nil => rfl
    | cons x xs ih => simp [blsOf, ih]
  simp [allO, this, List.all_map]
theorem isline_ (n : Nat) (s : Int) (d : D) (h : Nice d) (m : Sto) : callD fs (n + 2) 1 [.int s, d] m = .ok (.bl (lineB s d)) m := by
  rw [e1]
  have N : p1.N.length = 3 := rfl
  have hz := h.fz
  cases d with
  | tup xs =>
    obtain ⟨h1, h2⟩ := h
    have lc : lcL (Live ⟨xs, none⟩) (.nm 2) mYes (mCall (callD fs (n + 1)) 0 (mCons (mVar 2) mNil) []) [some (D.int s), some (D.tup xs), none] xs [] m = .ok (.lst (xs.map fun d => .bl (isIntD d))) m := by
      have := lc_pure (p := .nm 2) (mc := mYes) (me := mCall (callD fs (n + 1)) 0 (mCons (mVar 2) mNil) []) (r := [some (D.int s), some (D.tup xs), none]) (m := m) (fun _ => true) (fun d => .bl (isIntD d)) (it := xs) (ds := xs) (acc := []) (fun d hd => ⟨_, rfl, rfl, fun _ => by simp [whole_ n d (h1 d hd) m]⟩) (by unfold lim; simp; omega)
      rw [this, List.filter_eq_self.mpr (fun _ _ => rfl)]; rfl
    by_cases hl : (xs.length : Int) = s + 1
    · simp [b1, b1_s1, startE, N, isi_tup _ _ hz, isTupD, hl, lc, all_bl, lineB]
    · simp [b1, b1_s1, startE, N, isi_tup _ _ hz, isTupD, hl, lineB]
  | _ => simp [b1, b1_s1, startE, N, isi_tup _ _ hz, isTupD, lineB]
theorem isline2_ (n : Nat) (s : Int) (d : D) (h : Nice d) (hp : ∀ xs, d = .tup xs → okDs 5 xs = true ∧ hDs xs ≤ 63) (m : Sto) : callD fs (n + 1) 7 [.int s, d] m = .ok (.bl (lineB s d)) m := by
  rw [e7]
  have N : p7.N.length = 3 := rfl
  have hz := h.fz
  cases d with
  | tup xs =>
    obtain ⟨h1, h2⟩ := h
    obtain ⟨p1, p2⟩ := hp xs rfl
    have lc : lcL (Live ⟨xs, none⟩) (.nm 2) (mOrT (mNotT (mTru (mApN isiO (mCons (mVar 2) (mCons (mC (.ty "int")) mNil))))) (mTru (mApN isiO (mCons (mVar 2) (mCons (mC (.ty "bool")) mNil))))) (mVar 2) [some (D.int s), some (D.tup xs), none] xs [] m = .ok (.lst (xs.filter fun d => !isIntD d)) m := by
      have := lc_pure (p := .nm 2) (mc := mOrT (mNotT (mTru (mApN isiO (mCons (mVar 2) (mCons (mC (.ty "int")) mNil))))) (mTru (mApN isiO (mCons (mVar 2) (mCons (mC (.ty "bool")) mNil))))) (me := mVar 2) (r := [some (D.int s), some (D.tup xs), none]) (m := m) (fun d => !isIntD d) (fun d => d) (it := xs) (ds := xs) (acc := [])
        (fun d hd => ⟨_, rfl, by simp [isi_int _ _ (h1 d hd), isi_bool _ _ (h1 d hd)]; cases d <;> simp [isIntD, isBlD], fun _ => by simp⟩) (by unfold lim; simp; omega)
      simpa using this
    have q : eqD (.lst (xs.filter fun d => !isIntD d)) (.lst []) = some (xs.all isIntD) := by
      rw [eq_empty (k := 5) (by decide) (by decide) (okDs_all.mpr fun d hd => okDs_all.mp p1 d (List.mem_filter.mp hd).1) (hDs_le fun d hd => Nat.le_trans (hD_mem (List.mem_filter.mp hd).1) p2)]
      congr 1
      rw [Bool.eq_iff_iff]
      simp [List.isEmpty_iff, List.filter_eq_nil_iff, List.all_eq_true]
    have ce : cmpB .Eq (.lst (xs.filter fun d => !isIntD d)) (.lst []) = some (xs.all isIntD) := q
    by_cases hl : (xs.length : Int) = s + 1
    · simp [b7, b7_s1, b7_s2, startE, N, isi_tup _ _ hz, isTupD, hl, lc, ce, lineB]
    · simp [b7, b7_s1, b7_s2, startE, N, isi_tup _ _ hz, isTupD, hl, lineB]
  | _ => simp [b7, b7_s1, startE, N, isi_tup _ _ hz, isTupD, lineB]

def inW (w : Str) : Bool := (("least" : Str) == w) || (("above" : Str) == w)
def wishB (s : Int) : D → Bool
  | .tup [.str w, e] => inW w && lineB s e
  | _ => false
theorem inW_t (w : Str) : cmpB .In (.str w) (.tup [.str "least", .str "above"]) = some (inW w) := by
  show inFl _ _ = _
  simp [inFl, isBase, eqFl, inW]
theorem inW_l (w : Str) : cmpB .In (.str w) (.lst [.str "least", .str "above"]) = some (inW w) := inW_t w
theorem at2_0 (a b : D) : atI [a, b] 0 = some a := rfl
theorem at2_1 (a b : D) : atI [a, b] 1 = some b := rfl
theorem wish_len {xs : List D} (h : ((xs.length : Int) == 2) = true) : ∃ a b, xs = [a, b] := by
  have h2 : (xs.length : Int) = 2 := by simpa using h
  have : xs.length = 2 := by omega
  match xs, this with
  | [a, b], _ => exact ⟨a, b, rfl⟩
theorem wishB_len {xs : List D} {s : Int} (h : ((xs.length : Int) == 2) = false) : wishB s (.tup xs) = false := by
  match xs, h with
  | [], _ => rfl
  | [_], _ => simp [wishB]
  | [_, _], h => simp at h
  | _ :: _ :: _ :: _, _ => simp [wishB]
theorem iswish_ (n : Nat) (s : Int) (d : D) (h : Nice d) (he : ∀ w e, d = .tup [.str w, e] → Nice e) (m : Sto) : callD fs (n + 3) 2 [.int s, d] m = .ok (.bl (wishB s d)) m := by
  rw [e2]
  have N : p2.N.length = 2 := rfl
  have hz := h.fz
  cases d with
  | tup xs =>
    cases hl : ((xs.length : Int) == 2) with
    | false => simp [b2, b2_s1, startE, N, isi_tup _ _ hz, isTupD, hl, wishB_len hl]
    | true =>
      obtain ⟨a, b, rfl⟩ := wish_len hl
      have ha := h.1 a (by simp)
      cases a with
      | str w =>
        have hb := isline_ n s b (he w b rfl) m
        simp [b2, b2_s1, b2_s2, startE, N, isi_tup _ _ hz, isTupD, at2_0, at2_1, isi_str _ _ ha, isStrD, wishB, inW_t, hb]
        cases inW w <;> simp
      | _ => simp [b2, b2_s1, startE, N, isi_tup _ _ hz, isTupD, at2_0, isi_str _ _ ha, isStrD, wishB]
  | _ => simp [b2, b2_s1, startE, N, isi_tup _ _ hz, isTupD, wishB]
theorem iswish2_ (n : Nat) (s : Int) (d : D) (h : Nice d) (he : ∀ w e, d = .tup [.str w, e] → Nice e ∧ ∀ xs, e = .tup xs → okDs 5 xs = true ∧ hDs xs ≤ 63) (m : Sto) : callD fs (n + 2) 8 [.int s, d] m = .ok (.bl (wishB s d)) m := by
  rw [e8]
  have N : p8.N.length = 2 := rfl
  have hz := h.fz
  cases d with
  | tup xs =>
    cases hl : ((xs.length : Int) == 2) with
    | false => simp [b8, b8_s1, startE, N, isi_tup _ _ hz, isTupD, hl, wishB_len hl]
    | true =>
      obtain ⟨a, b, rfl⟩ := wish_len hl
      have ha := h.1 a (by simp)
      cases a with
      | str w =>
        have hb := isline2_ n s b (he w b rfl).1 (he w b rfl).2 m
        simp [b8, b8_s1, b8_s2, startE, N, isi_tup _ _ hz, isTupD, at2_0, at2_1, isi_str _ _ ha, isStrD, wishB, inW_l, hb]
        cases inW w <;> simp
      | _ => simp [b8, b8_s1, startE, N, isi_tup _ _ hz, isTupD, at2_0, isi_str _ _ ha, isStrD, wishB]
  | _ => simp [b8, b8_s1, startE, N, isi_tup _ _ hz, isTupD, wishB]

/-! bent -/
theorem cut_mem {α : Type} {xs : List α} {lo hi : Option Int} {d : α} (h : d ∈ cutD xs lo hi) : d ∈ xs := List.mem_of_mem_drop (List.mem_of_mem_take h)
theorem cut_len {α : Type} (xs : List α) (lo hi : Option Int) : (cutD xs lo hi).length ≤ xs.length := by
  unfold cutD; rw [List.length_take, List.length_drop]; omega
/-- parts of lines -/
def El (d : D) : Prop := okD 5 d = true ∧ hD d ≤ 1 ∧ wD 5 d ≤ 42
def Bn (d : D) : Prop := okD 5 d = true ∧ hD d ≤ 3 ∧ wD 5 d ≤ 540
theorem El.of {d : D} (h : SmI d) : El d := by
  obtain ⟨i, rfl, h1, h2⟩ := h
  refine ⟨?_, by simp, by simp⟩
  rw [okD_int, decide_eq_true_eq]; omega
theorem els {xs : List D} (h : ∀ d ∈ xs, El d) (hl : xs.length ≤ 12) : okDs 5 xs = true ∧ hDs xs ≤ 1 ∧ wDs 5 xs ≤ 516 := by
  refine ⟨okDs_all.mpr fun d hd => (h d hd).1, hDs_le fun d hd => (h d hd).2.1, ?_⟩
  have := wDs_le (k := 5) (B := 42) (ds := xs) fun d hd => (h d hd).2.2
  have := Nat.mul_le_mul_right 43 hl
  omega
theorem Bn.tup {xs : List D} (h : ∀ d ∈ xs, El d) (hl : xs.length ≤ 12) : Bn (.tup xs) := by
  obtain ⟨a, b, c⟩ := els h hl
  exact ⟨by simpa using a, by rw [hD_tup]; omega, by rw [wD_tup]; omega⟩
theorem Bn.lst {xs : List D} (h : ∀ d ∈ xs, El d) (hl : xs.length ≤ 12) : Bn (.lst xs) := by
  obtain ⟨a, b, c⟩ := els h hl
  exact ⟨by simpa using a, by rw [hD_lst]; omega, by rw [wD_lst]; omega⟩
abbrev odds : List D := [.bl true, .non, .str "1", .tup [.int 1, .int 1], .lst [.int 1], .bl false, .int (-5)]
theorem odd_el {d : D} (h : d ∈ odds) : El d := by
  simp only [odds, List.mem_cons, List.not_mem_nil, or_false] at h
  rcases h with rfl | rfl | rfl | rfl | rfl | rfl | rfl <;> exact ⟨by decide +kernel, by decide +kernel, by decide +kernel⟩
theorem bent_ (n l : Nat) (xs : List D) (m : Sto) (p : Pool m l) (hx : ∀ d ∈ xs, SmI d) (h1 : 0 < xs.length) (h2 : xs.length ≤ 11) : ∃ d m', callD fs (n + 2) 9 [.ref l, .tup xs] m = .ok d m' ∧ Bn d ∧ Pool m' l := by
  rw [e9]
  have N : p9.N.length = 5 := rfl
  obtain ⟨at_, m1, q1, a0, a1, p1, _, _⟩ := take_ n l xs.length m p (by omega) (by omega)
  obtain ⟨r, m2, o, q2, q3, q4, p2, _, _⟩ := pick (n := n) (xs := odds) p1 (by decide) (by decide)
  have q2 : callD fs (n + 1) 4 [.ref l, .int 7] m1 = .ok (.int r) m2 := q2
  have ho := odd_el q4
  have he : ∀ d ∈ xs, El d := fun d hd => El.of (hx d hd)
  let A := cutD xs none (some at_)
  let B := cutD xs (some (at_ + 1)) none
  have hA : A.length ≤ 11 := Nat.le_trans (cut_len xs none (some at_)) h2
  have hB : B.length ≤ 11 := Nat.le_trans (cut_len xs (some (at_ + 1)) none) h2
  have hAB : A.length + B.length ≤ 11 := by
    show (cutD xs none (some at_)).length + (cutD xs (some (at_ + 1)) none).length ≤ 11
    have z0 : HT.sIx xs.length 0 none = 0 := rfl
    have z1 : HT.sIx xs.length xs.length none = xs.length := rfl
    have z2 : HT.sIx xs.length xs.length (some at_) = min at_.toNat xs.length := if_neg (by omega)
    have z3 : HT.sIx xs.length 0 (some (at_ + 1)) = min (at_ + 1).toNat xs.length := if_neg (by omega)
    unfold cutD
    rw [List.length_take, List.length_drop, List.length_take, List.length_drop, z0, z1, z2, z3]
    omega
  have eA : ∀ d ∈ A, El d := fun d hd => he d (cut_mem hd)
  have eB : ∀ d ∈ B, El d := fun d hd => he d (cut_mem hd)
  obtain ⟨r3, m3, z, w1, w2, w3, p3, _, _⟩ := pick (n := n) (xs := [.tup (A ++ B), .tup (xs ++ [.int 0]), .tup (A ++ o :: B), .lst xs, .non, .tup [.tup xs], .tup xs]) p2 (by simp) (by simp)
  have w1 : callD fs (n + 1) 4 [.ref l, .int 7] m2 = .ok (.int r3) m3 := w1
  refine ⟨z, m3, ?_, ?_, p3⟩
  · have s1 : ∀ m, slO (.tup xs) none (some at_) m = some (.tup A, m) := fun _ => rfl
    have s2 : ∀ m, slO (.tup xs) (some (at_ + 1)) none m = some (.tup B, m) := fun _ => rfl
    have c1 : ∀ m, binS .Add (.tup A) (.tup B) m = some (.tup (A ++ B), m) := fun m => v_tupAdd m _ _ (by omega)
    have c2 : ∀ m, binS .Add (.tup xs) (.tup [.int 0]) m = some (.tup (xs ++ [.int 0]), m) := fun m => v_tupAdd m _ _ (by simp; omega)
    have c3 : ∀ m, binS .Add (.tup A) (.tup [o]) m = some (.tup (A ++ [o]), m) := fun m => v_tupAdd m _ _ (by simp; omega)
    have c4 : ∀ m, binS .Add (.tup (A ++ [o])) (.tup B) m = some (.tup (A ++ o :: B), m) := fun m => by
      rw [v_tupAdd m _ _ (by simp; omega), List.append_assoc]; rfl
    have c5 : ∀ (x y z u v w t : D) m, binS .Add (.lst [x, y, z]) (.lst [u, v, w, t]) m = some (.lst [x, y, z, u, v, w, t], m) := fun _ _ _ _ _ _ _ m => v_lstAdd m _ _ (by simp)
    simp [b9, b9_s1, b9_s2, b9_s3, startE, N, q1, q2, q3, w1, w2, -DI.sl_tup, s1, s2, c1, c2, c3, c4, c5]
  · simp only [List.mem_cons, List.not_mem_nil, or_false] at w3
    rcases w3 with rfl | rfl | rfl | rfl | rfl | rfl | rfl
    · exact Bn.tup (fun d hd => (List.mem_append.mp hd).elim (eA d) (eB d)) (by rw [List.length_append]; omega)
    · exact Bn.tup (fun d hd => (List.mem_append.mp hd).elim (he d) fun z => by rw [List.mem_singleton] at z; subst z; exact El.of ⟨0, rfl, by decide, by decide⟩) (by rw [List.length_append]; simp; omega)
    · exact Bn.tup (fun d hd => (List.mem_append.mp hd).elim (eA d) fun z => (List.mem_cons.mp z).elim (fun z => by subst z; exact ho) (eB d)) (by rw [List.length_append, List.length_cons]; omega)
    · exact Bn.lst he (by omega)
    · exact ⟨rfl, by simp, by simp⟩
    · obtain ⟨a, b, c⟩ := els he (by omega)
      exact ⟨by simpa using a, by simp; omega, by simp; omega⟩
    · exact Bn.tup he (by omega)
end K04

set_option Elab.async false
set_option linter.all false
set_option maxRecDepth 100000
set_option maxHeartbeats 2000000
namespace K04
open PySem PySem.Spec L2 DI
structure Tg (d : D) : Prop where
  rp : ∃ s, ∀ m, reprO [d] m = some (.str s, m)
  nice : Nice d
  tl : ∀ xs, d = .tup xs → okDs 5 xs = true ∧ hDs xs ≤ 63
  ws : ∀ w e, d = .tup [.str w, e] → Nice e ∧ ∀ xs, e = .tup xs → okDs 5 xs = true ∧ hDs xs ≤ 63
theorem nice_ok {d : D} (h : okD 5 d = true) (hw : wD 5 d ≤ 1000) : Nice d := by
  cases d with
  | tup xs =>
    rw [okD_tup] at h; rw [wD_tup] at hw
    exact ⟨fun x hx => okD_fz (okDs_all.mp h x hx), Nat.le_trans (len_wDs (k := 5)) hw⟩
  | _ => exact okD_fz h
theorem Tg.of {d : D} (h : okD 5 d = true) (hh : hD d ≤ 6) (hw : wD 5 d ≤ 1000) : Tg d := by
  refine ⟨repr_ok (by decide) (by decide) h (by omega) (by unfold lim; omega), nice_ok h hw, fun xs e => ?_, fun w e z => ?_⟩
  · subst e
    rw [okD_tup] at h; rw [hD_tup] at hh
    exact ⟨h, by omega⟩
  · subst z
    simp only [okD_tup, okDs_cons, okDs_nil, Bool.and_true, Bool.and_eq_true] at h
    simp only [hD_tup, hDs_cons, hDs_nil] at hh
    simp only [wD_tup, wDs_cons, wDs_nil] at hw
    refine ⟨nice_ok h.2 (by omega), fun xs z => ?_⟩
    subst z
    simp only [okD_tup] at h
    rw [hD_tup] at hh
    exact ⟨h.2, by omega⟩
theorem Tg.dct : Tg (.dct []) := ⟨⟨_, fun m => repr_dct m⟩, rfl, fun _ e => D.noConfusion e, fun _ _ e => D.noConfusion e⟩
theorem size_ (n : Nat) {x0 x1 x2 x4 x5 x6 x7 x10 : Option D} {many : Int} {d : D} {s : Str} (T : Tg d) (hs : ∀ m, reprO [d] m = some (.str s, m)) (m : Sto) :
    ∃ y, b10_s5 (callD fs (n + 3)) [x0, x1, x2, some (.int many), x4, x5, x6, x7, some d, some (.str s), x10] m = .nx [x0, x1, x2, some (.int many), x4, x5, x6, x7, some d, some (.str s), y] m := by
  have turn : ∀ (z : Int), (sSeq (b10_s3 (callD fs (n + 3))) (b10_s4 (callD fs (n + 3)))) [x0, x1, x2, some (.int many), x4, x5, x6, x7, some d, some (.str s), some (.int z)] m = .nx [x0, x1, x2, some (.int many), x4, x5, x6, x7, some d, some (.str s), some (.int z)] m := by
    intro z
    have a1 := isline_ (n + 1) z d T.nice m
    have a2 := isline2_ (n + 2) z d T.nice T.tl m
    have a3 := iswish_ n z d T.nice (fun w e q => (T.ws w e q).1) m
    have a4 := iswish2_ (n + 1) z d T.nice T.ws m
    simp [b10_s3, b10_s4, a1, a2, a3, a4, repr_bl, hs]
  obtain ⟨r2, m2, e, ⟨y, rfl⟩, rfl⟩ := for_inv (p := .nm 10) (s := sSeq (b10_s3 (callD fs (n + 3))) (b10_s4 (callD fs (n + 3)))) (it := [.int many, .int ((many + 1) % 10)]) (ds := [.int many, .int ((many + 1) % 10)]) (m := m)
    (r := [x0, x1, x2, some (.int many), x4, x5, x6, x7, some d, some (.str s), x10])
    (fun r μ => (∃ y, r = [x0, x1, x2, some (.int many), x4, x5, x6, x7, some d, some (.str s), y]) ∧ m = μ) (fun e he r μ ⟨⟨y, hr⟩, hm⟩ => by
      subst hr hm
      have : ∃ z : Int, e = .int z := by
        simp only [List.mem_cons, List.not_mem_nil, or_false] at he
        rcases he with rfl | rfl <;> exact ⟨_, rfl⟩
      obtain ⟨z, rfl⟩ := this
      exact ⟨_, _, _, rfl, .inl (turn z), ⟨_, rfl⟩, rfl⟩) ⟨⟨_, rfl⟩, rfl⟩
  exact ⟨y, by simp [b10_s5, v_modP _ _ 10 (by decide), e]⟩
abbrev words : List D := [.str "least", .str "above", .str "just", .str "Least", .str "", .non, .int 0, .tup [.str "least"], .str "least above"]
theorem word_w {d : D} (h : d ∈ words) : okD 5 d = true ∧ hD d ≤ 1 ∧ wD 5 d ≤ 20 := by
  simp only [words, List.mem_cons, List.not_mem_nil, or_false] at h
  rcases h with rfl | rfl | rfl | rfl | rfl | rfl | rfl | rfl | rfl <;> exact ⟨by decide +kernel, by decide +kernel, by decide +kernel⟩
theorem rep_el {k : Nat} : ∀ d ∈ List.replicate k (D.int 0), El d := fun d hd => by
  rw [(List.mem_replicate.mp hd).2]; exact El.of ⟨0, rfl, by decide, by decide⟩
/-- the fifteen things -/
abbrev base10 (ln bent : D) (k : Nat) : List D := [ln, bent, .tup [], .non, .str "line", .lst (List.replicate k (.int 0)), .tup (List.replicate k (.int 0)), .bl true, .int 5, .dct []]
abbrev more5 (ln bent word : D) : List D := [.tup [.str "least", ln], .tup [.str "above", ln], .tup [.str "least", bent], .tup [word, ln], .lst [word, ln]]
theorem things_tg {xs : List D} {bent word : D} {k : Nat} (hx : ∀ d ∈ xs, El d) (h2 : xs.length ≤ 11) (hb : Bn bent) (hw : okD 5 word = true ∧ hD word ≤ 1 ∧ wD 5 word ≤ 20) (hk : k ≤ 11) : ∀ d ∈ base10 (.tup xs) bent k ++ more5 (.tup xs) bent word, Tg d := by
  obtain ⟨l1, l2, l3⟩ := Bn.tup hx (by omega)
  obtain ⟨b1, b2, b3⟩ := hb
  obtain ⟨w1, w2, w3⟩ := hw
  obtain ⟨r1, r2, r3⟩ := Bn.tup (rep_el (k := k)) (by rw [List.length_replicate]; omega)
  obtain ⟨q1, q2, q3⟩ := Bn.lst (rep_el (k := k)) (by rw [List.length_replicate]; omega)
  have s1 : okD 5 (.str "least") = true := by decide +kernel
  have s2 : okD 5 (.str "above") = true := by decide +kernel
  have s3 : okD 5 (.str "line") = true := by decide +kernel
  have n1 : wD 5 (.str "least") = 5 := by decide +kernel
  have n2 : wD 5 (.str "above") = 5 := by decide +kernel
  have n3 : wD 5 (.str "line") = 4 := by decide +kernel
  have i5 : okD 5 (.int 5) = true := by decide +kernel
  intro d hd
  simp only [base10, more5, List.cons_append, List.nil_append, List.mem_cons, List.not_mem_nil, or_false] at hd
  rcases hd with rfl | rfl | rfl | rfl | rfl | rfl | rfl | rfl | rfl | rfl | rfl | rfl | rfl | rfl | rfl
  · exact Tg.of l1 (by omega) (by omega)
  · exact Tg.of b1 (by omega) (by omega)
  · exact Tg.of (by simp) (by simp) (by simp)
  · exact Tg.of (by simp) (by simp) (by simp)
  · exact Tg.of s3 (by simp) (by omega)
  · exact Tg.of q1 (by omega) (by omega)
  · exact Tg.of r1 (by omega) (by omega)
  · exact Tg.of (by simp) (by simp) (by simp)
  · exact Tg.of i5 (by simp) (by simp)
  · exact Tg.dct
  · exact Tg.of (by simp [s1] at l1 ⊢; exact l1) (by rw [hD_tup, hDs_cons, hDs_cons, hDs_nil, hD_str]; omega) (by rw [wD_tup, wDs_cons, wDs_cons, wDs_nil, n1]; omega)
  · exact Tg.of (by simp [s2] at l1 ⊢; exact l1) (by rw [hD_tup, hDs_cons, hDs_cons, hDs_nil, hD_str]; omega) (by rw [wD_tup, wDs_cons, wDs_cons, wDs_nil, n2]; omega)
  · exact Tg.of (by simp [s1, b1]) (by rw [hD_tup, hDs_cons, hDs_cons, hDs_nil, hD_str]; omega) (by rw [wD_tup, wDs_cons, wDs_cons, wDs_nil, n1]; omega)
  · exact Tg.of (by simp [w1] at l1 ⊢; exact l1) (by rw [hD_tup, hDs_cons, hDs_cons, hDs_nil]; omega) (by rw [wD_tup, wDs_cons, wDs_cons, wDs_nil]; omega)
  · exact Tg.of (by simp [w1] at l1 ⊢; exact l1) (by rw [hD_lst, hDs_cons, hDs_cons, hDs_nil]; omega) (by rw [wD_lst, wDs_cons, wDs_cons, wDs_nil]; omega)
/-- the first inner loop -/
theorem loop7 (n : Nat) {x0 x1 x2 x8 x9 x10 : Option D} {many : Int} {xs ys : List D} {bent word : D} (T : ∀ d ∈ ys ++ more5 (.tup xs) bent word, Tg d) (hy : ys.length = 10) (m : Sto) :
    ∃ y8 y9 y10, b10_s7 (callD fs (n + 3)) [x0, x1, x2, some (.int many), some (.tup xs), some bent, some word, some (.lst ys), x8, x9, x10] m = .nx [x0, x1, x2, some (.int many), some (.tup xs), some bent, some word, some (.lst ys), y8, y9, y10] m := by
  obtain ⟨r2, m2, e, ⟨y8, y9, y10, rfl⟩, rfl⟩ := for_inv (p := .nm 8) (s := b10_l6 (callD fs (n + 3))) (it := ys ++ more5 (.tup xs) bent word) (ds := ys ++ more5 (.tup xs) bent word) (m := m)
    (r := [x0, x1, x2, some (.int many), some (.tup xs), some bent, some word, some (.lst ys), x8, x9, x10])
    (fun r μ => (∃ y8 y9 y10, r = [x0, x1, x2, some (.int many), some (.tup xs), some bent, some word, some (.lst ys), y8, y9, y10]) ∧ m = μ) (fun d hd r μ ⟨⟨y8, y9, y10, hr⟩, hm⟩ => by
      subst hr hm
      have t := T d hd
      obtain ⟨s, hs⟩ := t.rp
      obtain ⟨y, e⟩ := size_ n (x0 := x0) (x1 := x1) (x2 := x2) (x4 := some (.tup xs)) (x5 := some bent) (x6 := some word) (x7 := some (.lst ys)) (x10 := y10) (many := many) t hs m
      exact ⟨_, _, _, rfl, .inl (by simp [b10_l6, hs, e]; exact ⟨rfl, rfl, rfl⟩), ⟨_, _, _, rfl⟩, rfl⟩) ⟨⟨_, _, _, rfl⟩, rfl⟩
  have c : binS .Add (.lst ys) (.lst (more5 (.tup xs) bent word)) m = some (.lst (ys ++ more5 (.tup xs) bent word), m) := v_lstAdd m _ _ (by rw [hy]; simp)
  exact ⟨y8, y9, y10, by simp [b10_s7, c, e]⟩
/-- the second inner loop -/
abbrev odd6 (ln : D) : List D := [.tup [.lst [.str "least"], ln], .tup [.dct [], ln], .tup [.str "least", ln, ln], .tup [.str "least"], .tup [ln, .str "least"], .tup [.str "above", ln, .non]]
theorem odd_wish (n : Nat) (s : Int) (xs : List D) (d : D) (h : d ∈ odd6 (.tup xs)) (m : Sto) : callD fs (n + 3) 2 [.int s, d] m = .ok (.bl false) m := by
  have nn : Nice d ∧ (∀ w e, d = .tup [.str w, e] → Nice e) ∧ wishB s d = false := by
    simp only [odd6, List.mem_cons, List.not_mem_nil, or_false] at h
    rcases h with rfl | rfl | rfl | rfl | rfl | rfl <;> exact ⟨⟨by simp [isFz], by simp⟩, by simp, by simp [wishB]⟩
  rw [iswish_ n s d nn.1 nn.2.1 m, nn.2.2]
theorem loop10 (n : Nat) {x0 x1 x2 x6 x7 x8 x9 x10 : Option D} {many : Int} {xs : List D} (m : Sto) :
    ∃ y8, b10_s10 (callD fs (n + 3)) [x0, x1, x2, some (.int many), some (.tup xs), some (.lst ((odd6 (.tup xs)).take 5)), x6, x7, x8, x9, x10] m = .nx [x0, x1, x2, some (.int many), some (.tup xs), some (.lst ((odd6 (.tup xs)).take 5)), x6, x7, y8, x9, x10] m := by
  obtain ⟨r2, m2, e, ⟨y8, rfl⟩, rfl⟩ := for_inv (p := .nm 8) (s := b10_s9 (callD fs (n + 3))) (it := odd6 (.tup xs)) (ds := odd6 (.tup xs)) (m := m)
    (r := [x0, x1, x2, some (.int many), some (.tup xs), some (.lst ((odd6 (.tup xs)).take 5)), x6, x7, x8, x9, x10])
    (fun r μ => (∃ y8, r = [x0, x1, x2, some (.int many), some (.tup xs), some (.lst ((odd6 (.tup xs)).take 5)), x6, x7, y8, x9, x10]) ∧ m = μ) (fun d hd r μ ⟨⟨y8, hr⟩, hm⟩ => by
      subst hr hm
      have z : cmpB .IsNot (.bl false) (.bl false) = some false := rfl
      exact ⟨_, _, _, rfl, .inl (by simp [b10_s9, odd_wish n many xs d hd m, z]; rfl), ⟨_, rfl⟩, rfl⟩) ⟨⟨_, rfl⟩, rfl⟩
  have c : binS .Add (.lst ((odd6 (.tup xs)).take 5)) (.lst [.tup [.str "above", .tup xs, .non]]) m = some (.lst (odd6 (.tup xs)), m) := v_lstAdd m _ _ (by simp)
  simp only [odd6, List.take_succ_cons, List.take_zero] at c e ⊢
  exact ⟨y8, by simp [b10_s10, c, e]⟩

theorem turn_ (n : Nat) (ns : List Int) (k : Nat) (hk : k < 64) {y1 y2 y3 y4 y5 y6 y7 y8 y9 y10 : Option D} (m : Sto) :
    ∃ z2 z3 z4 z5 z6 z7 z8 z9 z10 m2, b10_l11 (callD fs (n + 3)) [some (.lst (ns.map D.int)), some (.int (k : Int)), y2, y3, y4, y5, y6, y7, y8, y9, y10] m = .nx [some (.lst (ns.map D.int)), some (.int (k : Int)), z2, z3, z4, z5, z6, z7, z8, z9, z10] m2 := by
  obtain ⟨a, b, q1, p⟩ := pool0 (n + 2) ns k hk m
  have P1 : Pool (m ++ [.lst [.int a, .int b]]) m.length := ⟨a, b, by simp, p⟩
  obtain ⟨w, m3, q2, w0, w1, P2, _, _⟩ := take_ (n + 2) m.length 10 _ P1 (by decide) (by decide)
  obtain ⟨many, rfl⟩ : ∃ j : Nat, w = (j : Int) := ⟨w.toNat, by omega⟩
  obtain ⟨xs, m4, q3, hl, hx, P3⟩ := line_ (n + 1) m.length many (by omega) m3 P2
  obtain ⟨bent, m5, q4, hb, P4⟩ := bent_ (n + 1) m.length xs m4 P3 hx (by omega) (by omega)
  obtain ⟨r, m6, word, q5, q6, q7, P5, _, _⟩ := pick (n := n + 2) (xs := words) P4 (by decide) (by decide)
  have q5 : callD fs (n + 3) 4 [.ref m.length, .int 9] m5 = .ok (.int r) m6 := q5
  have T := things_tg (k := many + 1) (fun d hd => El.of (hx d hd)) (by omega) hb (word_w q7) (by omega)
  have u1 : ∀ m, binS .Mult (.lst [.int 0]) (.int ((many : Int) + 1)) m = some (.lst (List.replicate (many + 1) (.int 0)), m) := fun m => v_lstMul m _ _ (by omega) (by omega)
  have u2 : ∀ m, binS .Mult (.tup [.int 0]) (.int ((many : Int) + 1)) m = some (.tup (List.replicate (many + 1) (.int 0)), m) := fun m => v_tupMul m _ _ (by omega) (by omega)
  obtain ⟨z8, z9, z10, f1⟩ := loop7 n (x0 := some (.lst (ns.map D.int))) (x1 := some (.int (k : Int))) (x2 := some (.ref m.length)) (x8 := y8) (x9 := y9) (x10 := y10) (many := many) T rfl m6
  obtain ⟨z8', f2⟩ := loop10 n (x0 := some (.lst (ns.map D.int))) (x1 := some (.int (k : Int))) (x2 := some (.ref m.length)) (x6 := some word) (x7 := some (.lst (base10 (.tup xs) bent (many + 1)))) (x8 := z8) (x9 := z9) (x10 := z10) (many := many) (xs := xs) m6
  simp only [odd6, List.take_succ_cons, List.take_zero] at f2
  simp [b10_l11, q1, q2, q3, q4, b10_s1, q5, q6, b10_s2, u1, u2, f1, b10_s8, f2]
theorem law_runs (ns : List Int) (h : ns.length ≤ 63) : ∃ μ, callD fs 12 10 [.lst (ns.map D.int)] [] = .ok (.bl true) μ := by
  rw [show callD fs 12 10 [.lst (ns.map D.int)] [] = _ from e10 11 _ _]
  have N : p10.N.length = 11 := rfl
  obtain ⟨c, hc, c0, c1⟩ : ∃ c : Int, (if (if (40 : Int) < ns.length then (40 : Int) else ns.length) > 1 then (if (40 : Int) < ns.length then (40 : Int) else ns.length) else 1) = c ∧ 1 ≤ c ∧ c ≤ 40 := ⟨_, rfl, by split <;> split <;> omega, by split <;> split <;> omega⟩
  obtain ⟨r2, m2, e, ⟨z1, z2, z3, z4, z5, z6, z7, z8, z9, z10, rfl⟩⟩ := for_inv (p := .nm 1) (s := b10_l11 (callD fs (8 + 3))) (it := intRange 0 c.toNat) (ds := intRange 0 c.toNat) (m := [])
    (r := [some (.lst (ns.map D.int)), none, none, none, none, none, none, none, none, none, none])
    (fun r _ => ∃ z1 z2 z3 z4 z5 z6 z7 z8 z9 z10, r = [some (.lst (ns.map D.int)), z1, z2, z3, z4, z5, z6, z7, z8, z9, z10]) (fun d hd r m hr => by
      obtain ⟨z1, z2, z3, z4, z5, z6, z7, z8, z9, z10, rfl⟩ := hr
      unfold intRange at hd
      obtain ⟨k, hk, rfl⟩ := List.mem_map.mp hd
      have hk := List.mem_range.mp hk
      obtain ⟨u2, u3, u4, u5, u6, u7, u8, u9, u10, m2, f⟩ := turn_ 8 ns k (by omega) (y1 := z1) (y2 := z2) (y3 := z3) (y4 := z4) (y5 := z5) (y6 := z6) (y7 := z7) (y8 := z8) (y9 := z9) (y10 := z10) m
      rw [Int.zero_add]
      exact ⟨_, _, m2, rfl, .inl f, ⟨_, _, _, _, _, _, _, _, _, _, rfl⟩⟩) ⟨_, _, _, _, _, _, _, _, _, _, rfl⟩
  have e : forL (Live ⟨intRange 0 c.toNat, none⟩) (.nm 1) (b10_l11 (callD fs 11)) (intRange 0 c.toNat) [some (.lst (ns.map D.int)), none, none, none, none, none, none, none, none, none, none] [] = .nx _ m2 := e
  refine ⟨m2, ?_⟩
  simp [b10, b10_s12, startE, N, hc, rng1 (j := c) (by omega) (by omega), e]
end K04

set_option Elab.async false
set_option linter.all false
set_option maxRecDepth 100000
set_option maxHeartbeats 8000000
open PySem PySem.W PySem.Calls PyProof.Rows
theorem PySem.Challenge.cw_coveredtree_k04_lines_and_wishes_looked_holds : PySem.Challenge.rw_coveredtree_k04_lines_and_wishes_looked.Holds := by
  w_on; o_law
  refine HandSHeadRun.head_any (r := OpenLaw.row PySem.Challenge.rw_coveredtree_k04_lines_and_wishes_looked) (q := view (OpenLaw.row PySem.Challenge.rw_coveredtree_k04_lines_and_wishes_looked).prog [14]) (H := K04.hk) (ob := K04.ob) (M := 4000) (loose := K04.loose) (d := HandSHeadRun.topDef (OpenLaw.row PySem.Challenge.rw_coveredtree_k04_lines_and_wishes_looked).prog 14) (kwd := []) K04.ob_eq
    (by kernel_rfl) (fun s => by kernel_rfl) K04.run (by kernel_rfl) (by kernel_rfl) (by kernel_rfl) (by rfl) (by first | assumption | decide +kernel) (by decide +kernel) ⟨rfl, rfl, rfl, rfl, rfl, by decide +kernel⟩ ?hw ?hc
  case hw => w_witness2
  case hc =>
    exact DI.walk_di (l := PySem.Challenge.rw_coveredtree_k04_lines_and_wishes_looked) (n := 63) (k := 12) (nms := K04.nms) (cs := []) (gl := K04.gl) (no := K04.no) (fn := K04.fn) (fs := K04.fs) (kl := 10) (pl := K04.p10) rfl (by decide) (by kernel_rfl) ⟨rfl, by decide, by decide⟩ (by kernel_rfl) rfl rfl rfl K04.hd K04.ht K04.law_runs

