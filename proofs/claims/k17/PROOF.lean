import PyProof.Rows.All
import Wide.All
import OpenK.AllK
import Wide.FinOn
import HandS.ForMost
import HandS.ForExc
import HandS.Wide
import HandS.TupAny
import HandS.TupMul
import HandS.IsInst
import HandS.Flow
import HandS.HeadHook2
import HandS.TupLe
import KE.KTupSum
import HandS.Codes
import HandS.Text
import PyProof.ReprRoads
import HandS.Iter
import HandS.Zip
import HandS.ExcValue
import HandS.ExcInit
import HandS.ExcOwn
import HandS.TryMany
import HandS.Defaults
import HandS.ClsMeth
import KE.KExcInit
import KE.KExcIs
import HandS.FStr
import HandS.More
import HandS.Dict
import HandS.Deep
import HandS.DictComp
import HandS.HeadHook3
import HandS.HeadEnd
import HandS.Head0
import HandS.Head1
import HandS.Head2
import HandS.HeadHook1
import KE.KStateDown
import PyProof.ReprLen
import PyProof.StrLawsFirst
import PyProof.Rows.StrLawsPart
import KE.KIntText
import KE.IntTextLaws
import PySem.Challenge.RW_coveredtree_k17_stands_looked_at
set_option Elab.async false
set_option linter.all false
set_option maxRecDepth 100000
set_option maxHeartbeats 1000000
/-! DIA: deep values, stores, actions; what a deep value is in an abstract heap. -/
namespace DI
open PySem PySem.Spec L2
open PyProof.Rows hiding St

/-- deep values: tuples, frozen lists, frozen dicts are plain data -/
inductive D where
  | non | bl (b : Bool) | int (i : Int) | str (x : Str) | tup (xs : List D) | lst (xs : List D) | dct (kvs : List (D × D))
  | ref (l : Nat) | fn (k : Nat) | cls (k : Nat) | ty (n : String) | exc (k : Nat) (fs : List (Str × D))
  deriving Inhabited
/-- mutable things -/
inductive O where
  | lst (xs : List D) | ins (c : Nat) (fs : List (Str × D)) | dct (kvs : List (Key × D)) | dead
  deriving Inhabited
abbrev Sto := List O
abbrev Env := List (Option D)
inductive R (α : Type) where
  | ok (a : α) (m : Sto) | exc (k : Nat) (fs : List (Str × D)) (m : Sto) | stuck
def R.bind {α β : Type} (r : R α) (f : α → Sto → R β) : R β := match r with
  | .ok a m => f a m
  | .exc k fs m => .exc k fs m
  | .stuck => .stuck
abbrev M (α : Type) := Env → Sto → R α

/-! ### relations -/
/-- what never changes once it stands: tuples and frozen things -/
structure Ext (H H' : Hp) : Prop where
  tup : ∀ b xs, H b = some (.tup xs) → H' b = some (.tup xs)
  frz : ∀ b o u, H b = some (.frz o u) → H' b = some (.frz o u)
theorem Ext.refl (H : Hp) : Ext H H := ⟨fun _ _ h => h, fun _ _ _ h => h⟩
theorem Ext.trans {H H1 H2 : Hp} (a : Ext H H1) (b : Ext H1 H2) : Ext H H2 := ⟨fun c xs h => b.tup c xs (a.tup c xs h), fun c o u h => b.frz c o u (a.frz c o u h)⟩
/-- addresses of the store grow -/
def Le (t t' : List Addr) : Prop := ∀ (l : Nat) (a : Addr), t[l]? = some a → t'[l]? = some a
theorem Le.refl (t : List Addr) : Le t t := fun _ _ h => h
theorem Le.trans {t t1 t2 : List Addr} (a : Le t t1) (b : Le t1 t2) : Le t t2 := fun l c h => b l c (a l c h)
theorem Le.app (t u : List Addr) : Le t (t ++ u) := fun l a h => by
  rw [List.getElem?_append_left (List.getElem?_eq_some_iff.mp h).1]; exact h

/-- the world of a text: the written part, where defs and classes stand; what holds beside of names and things (J: in an except suite, of its exception), which slots may be stored to -/
structure Gx where
  K : PySem.W.Frag
  fa : Nat → Option Addr
  ca : Nat → Option Addr
  J : St → List Addr → Hp → Prop := fun _ _ _ => True
  js : ∀ s t H t' H', Le t t' → Ext H H' → J s t H → J s t' H' := by intros; trivial
  fr : Nat → Bool := fun _ => true
  jf : ∀ s t H i o, fr i = true → J s t H → J (s.set i o) t H := by intros; trivial

def SqF (H : Hp) (a : Addr) (xs : List V) : Prop := ∃ o, H a = some (.frz o (.lst xs))
def DqF (H : Hp) (a : Addr) (kvs : List (Key × V)) : Prop := ∃ o, H a = some (.frz o (.dK kvs))
def keyD : Key → D
  | .inl i => .int i
  | .inr x => .str x
mutual
inductive RD (G : Gx) (t : List Addr) (H : Hp) : D → V → Prop
  | non : RD G t H .non .non
  | bl (b : Bool) : RD G t H (.bl b) (.bl b)
  | int (i : Int) : RD G t H (.int i) (.int i)
  | str (x : Str) : RD G t H (.str x) (.str x)
  | ty (n : String) : RD G t H (.ty n) (.ty n)
  | tup {a : Addr} {ds : List D} {vs : List V} : SqT G.K H a vs → RDs G t H ds vs → RD G t H (.tup ds) (.ref a)
  | lst {a : Addr} {ds : List D} {vs : List V} : SqF H a vs → RDs G t H ds vs → RD G t H (.lst ds) (.ref a)
  | dct {a : Addr} {kds : List (D × D)} {kvs : List (Key × V)} : DqF H a kvs → RDk G t H kds kvs → RD G t H (.dct kds) (.ref a)
  | ref {l : Nat} {a : Addr} : t[l]? = some a → RD G t H (.ref l) (.ref a)
  | fn {k : Nat} {a : Addr} : G.fa k = some a → RD G t H (.fn k) (.ref a)
  | cls {k : Nat} {a : Addr} : G.ca k = some a → RD G t H (.cls k) (.ref a)
inductive RDs (G : Gx) (t : List Addr) (H : Hp) : List D → List V → Prop
  | nil : RDs G t H [] []
  | cons {d : D} {v : V} {ds : List D} {vs : List V} : RD G t H d v → RDs G t H ds vs → RDs G t H (d :: ds) (v :: vs)
inductive RDk (G : Gx) (t : List Addr) (H : Hp) : List (D × D) → List (Key × V) → Prop
  | nil : RDk G t H [] []
  | cons {k : Key} {d : D} {v : V} {ds : List (D × D)} {vs : List (Key × V)} : RD G t H d v → RDk G t H ds vs → RDk G t H ((keyD k, d) :: ds) ((k, v) :: vs)
end

theorem Ext.new {H : Hp} {p : Addr} {o : HO} (h : H p = none) : Ext H (upd H p o) :=
  ⟨fun b xs e => by rw [upd_ne (ne_of_none e h)]; exact e, fun b u xs e => by rw [upd_ne (ne_of_none e h)]; exact e⟩
/-- a written object that is neither -/
def Soft : HO → Prop
  | .tup _ => False
  | .frz _ _ => False
  | _ => True
theorem Ext.put {H : Hp} {p : Addr} {o u : HO} (h : H p = some o) (s : Soft o) : Ext H (upd H p u) := by
  have n1 : ∀ b xs, H b = some (.tup xs) → b ≠ p := fun b xs e z => by subst z; rw [e] at h; cases h; exact s
  have n2 : ∀ b x xs, H b = some (.frz x xs) → b ≠ p := fun b x xs e z => by subst z; rw [e] at h; cases h; exact s
  exact ⟨fun b xs e => by rw [upd_ne (n1 b xs e)]; exact e, fun b x xs e => by rw [upd_ne (n2 b x xs e)]; exact e⟩

theorem rd_of {H : Hp} {H' : Hp} (e : Ext H H') {K : PySem.W.Frag} {a : Addr} {xs : List V} (h : SqT K H a xs) : SqT K H' a xs := by
  rcases h with (h | ⟨o, h⟩) | h
  · exact .inl (.inl (e.tup _ _ h))
  · exact .inl (.inr ⟨o, e.frz _ _ _ h⟩)
  · exact .inr h
theorem sqF_of {H : Hp} {H' : Hp} (e : Ext H H') {a : Addr} {xs : List V} (h : SqF H a xs) : SqF H' a xs := let ⟨o, q⟩ := h; ⟨o, e.frz _ _ _ q⟩
theorem dqF_of {H : Hp} {H' : Hp} (e : Ext H H') {a : Addr} {xs : List (Key × V)} (h : DqF H a xs) : DqF H' a xs := let ⟨o, q⟩ := h; ⟨o, e.frz _ _ _ q⟩
theorem SqF.l {H : Hp} {K : PySem.W.Frag} {a : Addr} {xs : List V} (h : SqF H a xs) : SqL K H a xs := let ⟨o, q⟩ := h; .inl (.inr ⟨o, q⟩)

/-- A STEP of the world: what stands stays, but the store's own things; new ones are new -/
structure Stp (t : List Addr) (H : Hp) (t1 : List Addr) (H1 : Hp) : Prop where
  le : Le t t1
  ex : Ext H H1
  keep : ∀ b u, H b = some u → b ∉ t → H1 b = some u
  new : ∀ a, a ∈ t1 → a ∈ t ∨ H a = none
theorem Stp.refl (t : List Addr) (H : Hp) : Stp t H t H := ⟨Le.refl t, Ext.refl H, fun _ _ h _ => h, fun _ h => .inl h⟩
theorem Stp.trans {t t1 t2 : List Addr} {H H1 H2 : Hp} (a : Stp t H t1 H1) (b : Stp t1 H1 t2 H2) : Stp t H t2 H2 := by
  refine ⟨a.le.trans b.le, a.ex.trans b.ex, fun c u h n => b.keep c u (a.keep c u h n) fun z => ?_, fun c h => ?_⟩
  · rcases a.new c z with q | q
    · exact n q
    · rw [q] at h; cases h
  · rcases b.new c h with q | q
    · exact a.new c q
    · by_cases n : c ∈ t
      · exact .inl n
      · cases e : H c with
        | none => exact .inr rfl
        | some u => rw [a.keep c u e n] at q; cases q
theorem Stp.fresh {t : List Addr} {H : Hp} {p : Addr} {o : HO} (h : H p = none) : Stp t H t (upd H p o) :=
  ⟨Le.refl t, Ext.new h, fun b u e _ => by rw [upd_ne (ne_of_none e h)]; exact e, fun _ h => .inl h⟩
theorem Stp.grow {t : List Addr} {H : Hp} {p : Addr} {o : HO} (h : H p = none) : Stp t H (t ++ [p]) (upd H p o) :=
  ⟨Le.app t [p], Ext.new h, fun b u e _ => by rw [upd_ne (ne_of_none e h)]; exact e, fun a q => by
    rcases List.mem_append.mp q with z | z
    · exact .inl z
    · rw [List.mem_singleton] at z; subst z; exact .inr h⟩
theorem Stp.put {t : List Addr} {H : Hp} {p : Addr} {o u : HO} (hp : p ∈ t) (h : H p = some o) (s : Soft o) : Stp t H t (upd H p u) :=
  ⟨Le.refl t, Ext.put h s, fun b x e n => by rw [upd_ne fun z => n (by rw [z]; exact hp)]; exact e, fun _ h => .inl h⟩

section
variable {G : Gx} {t t' : List Addr} {H H' : Hp}
mutual
theorem RD.mono (le : Le t t') (e : Ext H H') : ∀ {d : D} {v : V}, RD G t H d v → RD G t' H' d v
  | _, _, .non => .non
  | _, _, .bl b => .bl b
  | _, _, .int i => .int i
  | _, _, .str x => .str x
  | _, _, .ty n => .ty n
  | _, _, .tup s r => .tup (rd_of e s) (RDs.mono le e r)
  | _, _, .lst s r => .lst (sqF_of e s) (RDs.mono le e r)
  | _, _, .dct s r => .dct (dqF_of e s) (RDk.mono le e r)
  | _, _, .ref h => .ref (le _ _ h)
  | _, _, .fn h => .fn h
  | _, _, .cls h => .cls h
theorem RDs.mono (le : Le t t') (e : Ext H H') : ∀ {d : List D} {v : List V}, RDs G t H d v → RDs G t' H' d v
  | _, _, .nil => .nil
  | _, _, .cons r s => .cons (RD.mono le e r) (RDs.mono le e s)
theorem RDk.mono (le : Le t t') (e : Ext H H') : ∀ {d : List (D × D)} {v : List (Key × V)}, RDk G t H d v → RDk G t' H' d v
  | _, _, .nil => .nil
  | _, _, .cons r s => .cons (RD.mono le e r) (RDk.mono le e s)
end
section
variable {G' : Gx}
mutual
theorem RD.cg (hK : G.K = G'.K) (hf : G.fa = G'.fa) (hc : G.ca = G'.ca) : ∀ {d : D} {v : V}, RD G t H d v → RD G' t H d v
  | _, _, .non => .non
  | _, _, .bl b => .bl b
  | _, _, .int i => .int i
  | _, _, .str x => .str x
  | _, _, .ty n => .ty n
  | _, _, .tup s r => .tup (hK ▸ s) (RDs.cg hK hf hc r)
  | _, _, .lst s r => .lst s (RDs.cg hK hf hc r)
  | _, _, .dct s r => .dct s (RDk.cg hK hf hc r)
  | _, _, .ref h => .ref h
  | _, _, .fn h => .fn (hf ▸ h)
  | _, _, .cls h => .cls (hc ▸ h)
theorem RDs.cg (hK : G.K = G'.K) (hf : G.fa = G'.fa) (hc : G.ca = G'.ca) : ∀ {d : List D} {v : List V}, RDs G t H d v → RDs G' t H d v
  | _, _, .nil => .nil
  | _, _, .cons r s => .cons (RD.cg hK hf hc r) (RDs.cg hK hf hc s)
theorem RDk.cg (hK : G.K = G'.K) (hf : G.fa = G'.fa) (hc : G.ca = G'.ca) : ∀ {d : List (D × D)} {v : List (Key × V)}, RDk G t H d v → RDk G' t H d v
  | _, _, .nil => .nil
  | _, _, .cons r s => .cons (RD.cg hK hf hc r) (RDk.cg hK hf hc s)
end
end
theorem RDs.length : ∀ {ds : List D} {vs : List V}, RDs G t H ds vs → ds.length = vs.length
  | _, _, .nil => rfl
  | _, _, .cons _ r => by rw [List.length_cons, List.length_cons, RDs.length r]
theorem RDs.append : ∀ {ds es : List D} {vs us : List V}, RDs G t H ds vs → RDs G t H es us → RDs G t H (ds ++ es) (vs ++ us)
  | _, _, _, _, .nil, s => s
  | _, _, _, _, .cons a r, s => .cons a (RDs.append r s)
theorem RDs.get : ∀ {ds : List D} {vs : List V} {i : Nat} {d : D}, RDs G t H ds vs → ds[i]? = some d → ∃ v, vs[i]? = some v ∧ RD G t H d v
  | _, _, _, _, .nil, e => by simp at e
  | _, _, 0, _, .cons r _, e => by simp at e; subst e; exact ⟨_, rfl, r⟩
  | _, _, i + 1, d, .cons _ r, e => by
    obtain ⟨v, h1, h2⟩ := RDs.get (i := i) (d := d) r (by simpa using e)
    exact ⟨v, by simpa using h1, h2⟩
theorem RDs.get' : ∀ {ds : List D} {vs : List V} {i : Nat} {v : V}, RDs G t H ds vs → vs[i]? = some v → ∃ d, ds[i]? = some d ∧ RD G t H d v
  | _, _, _, _, .nil, e => by simp at e
  | _, _, 0, _, .cons r _, e => by simp at e; subst e; exact ⟨_, rfl, r⟩
  | _, _, i + 1, d, .cons _ r, e => by
    obtain ⟨v, h1, h2⟩ := RDs.get' (i := i) (v := d) r (by simpa using e)
    exact ⟨v, by simpa using h1, h2⟩
theorem RDs.take : ∀ {ds : List D} {vs : List V} (n : Nat), RDs G t H ds vs → RDs G t H (ds.take n) (vs.take n)
  | _, _, 0, _ => by simpa using RDs.nil
  | _, _, _ + 1, .nil => .nil
  | _, _, n + 1, .cons r s => .cons r (RDs.take n s)
theorem RDs.drop : ∀ {ds : List D} {vs : List V} (n : Nat), RDs G t H ds vs → RDs G t H (ds.drop n) (vs.drop n)
  | _, _, 0, r => r
  | _, _, _ + 1, .nil => .nil
  | _, _, n + 1, .cons _ s => RDs.drop n s
theorem RDs.set {d : D} {v : V} (r : RD G t H d v) : ∀ {ds : List D} {vs : List V} (i : Nat), RDs G t H ds vs → RDs G t H (ds.set i d) (vs.set i v)
  | _, _, _, .nil => .nil
  | _, _, 0, .cons _ s => .cons r s
  | _, _, i + 1, .cons q s => .cons q (RDs.set r i s)
theorem RDs.rep {ds : List D} {vs : List V} (r : RDs G t H ds vs) : ∀ n : Nat, RDs G t H (List.replicate n ds).flatten (List.replicate n vs).flatten
  | 0 => .nil
  | n + 1 => by rw [List.replicate_succ, List.replicate_succ, List.flatten_cons, List.flatten_cons]; exact r.append (RDs.rep r n)

/-- fields of an instance, of an exception -/
def RF (G : Gx) (t : List Addr) (H : Hp) (fs : List (Str × D)) (vs : List (Str × V)) : Prop := fs.map (·.1) = vs.map (·.1) ∧ RDs G t H (fs.map (·.2)) (vs.map (·.2))
theorem RF.mono (le : Le t t') (e : Ext H H') {fs : List (Str × D)} {vs : List (Str × V)} (h : RF G t H fs vs) : RF G t' H' fs vs := ⟨h.1, h.2.mono le e⟩
def RKs (G : Gx) (t : List Addr) (H : Hp) (fs : List (Key × D)) (vs : List (Key × V)) : Prop := fs.map (·.1) = vs.map (·.1) ∧ RDs G t H (fs.map (·.2)) (vs.map (·.2))
theorem RKs.mono (le : Le t t') (e : Ext H H') {fs : List (Key × D)} {vs : List (Key × V)} (h : RKs G t H fs vs) : RKs G t' H' fs vs := ⟨h.1, h.2.mono le e⟩

/-- a mutable thing at its address -/
def OR (G : Gx) (t : List Addr) (H : Hp) : O → Addr → Prop
  | .lst ds, p => ∃ vs, H p = some (.lst vs) ∧ RDs G t H ds vs
  | .ins c fs, p => ∃ C dx vs, G.ca c = some C ∧ H p = some (.ins C dx vs) ∧ RF G t H fs vs
  | .dct kds, p => ∃ kvs, H p = some (.dK kvs) ∧ RKs G t H kds kvs
  | .dead, _ => True
/-- the store -/
structure SS (G : Gx) (t : List Addr) (H : Hp) (m : Sto) : Prop where
  len : t.length = m.length
  ob : ∀ (l : Nat) (o : O), m[l]? = some o → ∃ p, t[l]? = some p ∧ OR G t H o p
  kn : ∀ a, a ∈ t → ∃ u, H a = some u
  inj : ∀ (l l' : Nat) (o o' : O) (p : Addr), m[l]? = some o → m[l']? = some o' → o ≠ .dead → o' ≠ .dead → t[l]? = some p → t[l']? = some p → l = l'
/-- the names -/
structure SE (G : Gx) (t : List Addr) (H : Hp) (r : Env) (s : St) : Prop where
  len : r.length = s.length
  at_ : ∀ (i : Nat) (d : D), r[i]? = some (some d) → ∃ v, s[i]? = some (some v) ∧ RD G t H d v
  j : G.J s t H
theorem SE.mono (le : Le t t') (e : Ext H H') {r : Env} {s : St} (h : SE G t H r s) : SE G t' H' r s := ⟨h.len, fun i d q => let ⟨v, a, b⟩ := h.at_ i d q; ⟨v, a, b.mono le e⟩, G.js s t H t' H' le e h.j⟩
end

/-! ### the ends of actions -/
/-- an operation's end -/
def KO (G : Gx) (r : Option (D × Sto)) (t : List Addr) (H : Hp) (Q : VK) : Prop := match r with
  | some (d, m) => ∀ v H' t', Stp t H t' H' → SS G t' H' m → RD G t' H' d v → Q v H'
  | none => False
/-- an exception as it is told: its class, its own dict -/
def RX (G : Gx) (t : List Addr) (H : Hp) (k : Nat) (fs : List (Str × D)) (cls : Value) (da : Option Addr) : Prop :=
  (∃ C, G.ca k = some C ∧ cls = .ref C) ∧ ((fs = [] ∧ da = none) ∨ ∃ a vs o, da = some a ∧ H a = some (.frz o (.xd vs)) ∧ RF G t H fs vs)
/-- an action's end: values, exceptions -/
def KE {α β : Type} (G : Gx) (W : WX) (s : St) (rel : List Addr → Hp → α → β → Prop) (r : R α) (t : List Addr) (H : Hp) (Q : β → Hp → Prop) : Prop := match r with
  | .ok d m => ∀ v H' t', Stp t H t' H' → SS G t' H' m → rel t' H' d v → Q v H'
  | .exc k fs m => ∀ cls da H' t', Stp t H t' H' → SS G t' H' m → RX G t' H' k fs cls da → W cls da s H'
  | .stuck => False
abbrev relD (G : Gx) : List Addr → Hp → D → V → Prop := fun t H d v => RD G t H d v
abbrev relB : List Addr → Hp → Bool → Bool → Prop := fun _ _ b c => c = b
abbrev relDs (G : Gx) : List Addr → Hp → List D → List V → Prop := fun t H d v => RDs G t H d v
/-- readings of actions -/
def Rd {α β : Type} (G : Gx) (W : WX) (rel : List Addr → Hp → α → β → Prop) (m : M α) : St → Hp → (β → Hp → Prop) → Prop := fun s H Q =>
  ∃ r μ t, SE G t H r s ∧ SS G t H μ ∧ KE G W s rel (m r μ) t H Q
abbrev RdE (G : Gx) (W : WX) (m : M D) : TE := Rd G W (relD G) m
abbrev RdT (G : Gx) (W : WX) (m : M Bool) : TT := Rd G W relB m
abbrev RdA (G : Gx) (W : WX) (m : M (List D)) : TA := Rd G W (relDs G) m

theorem PE.imp {X : Cx} {e : Expr} {t u : TE} (h : PE X e t) (i : ∀ s H Q, u s H Q → t s H Q) : PE X e u := ⟨fun pins s σ H Q I q => h.run pins s σ H Q I (i _ _ _ q)⟩
theorem PT.imp {X : Cx} {e : Expr} {t u : TT} (h : PT X e t) (i : ∀ s H Q, u s H Q → t s H Q) : PT X e u := ⟨fun pins s σ H Q I q => h.run pins s σ H Q I (i _ _ _ q)⟩
theorem PW.imp {X : Cx} {e : Expr} {t u : TT} (h : PW X e t) (i : ∀ s H Q, u s H Q → t s H Q) : PW X e u := ⟨fun wh pins s σ H Q I q => h.run wh pins s σ H Q I (i _ _ _ q)⟩
theorem PA.imp {X : Cx} {e : List Expr} {t u : TA} (h : PA X e t) (i : ∀ s H Q, u s H Q → t s H Q) : PA X e u := ⟨fun p pins s σ H Q I q => h.run p pins s σ H Q I (i _ _ _ q)⟩

section
variable {G : Gx} {W : WX} {s : St} {t t1 : List Addr} {H H1 : Hp} {α β γ δ : Type} {rel : List Addr → Hp → α → β → Prop} {rel2 : List Addr → Hp → γ → δ → Prop}
/-- behind a step the end may be asked from there -/
theorem KE.later {r : R γ} {Q : δ → Hp → Prop} (e : Stp t H t1 H1) (h : KE G W s rel2 r t H Q) : KE G W s rel2 r t1 H1 Q := by
  cases r with
  | ok d m => exact fun v H' t' e' a b => h v H' t' (e.trans e') a b
  | exc k fs m => exact fun c da H' t' e' a b => h c da H' t' (e.trans e') a b
  | stuck => exact h
/-- THE BIND: an action that begins with another one -/
theorem Rd.bind {m1 : M α} {f : α → M γ} {Q : δ → Hp → Prop} {t' : St → Hp → (β → Hp → Prop) → Prop}
    (h : Rd G W rel2 (fun r μ => (m1 r μ).bind fun a μ' => f a r μ') s H Q) :
    Rd G W rel m1 s H fun v H1 => ∃ (a : α) (r : Env) (μ : Sto) (t : List Addr), SE G t H1 r s ∧ SS G t H1 μ ∧ rel t H1 a v ∧ KE G W s rel2 (f a r μ) t H1 Q := by
  obtain ⟨r, μ, t, se, ss, k⟩ := h
  refine ⟨r, μ, t, se, ss, ?_⟩
  cases e : m1 r μ with
  | ok a μ' =>
    simp only [e, R.bind] at k
    exact fun v H' t' ex s' rl => ⟨a, r, μ', t', se.mono ex.le ex.ex, s', rl, k.later ex⟩
  | exc kk fs μ' =>
    simp only [e, R.bind] at k
    exact k
  | stuck =>
    simp only [e, R.bind] at k
    exact k
end
end DI

set_option Elab.async false
set_option linter.all false
set_option maxRecDepth 100000
set_option maxHeartbeats 1000000
/-! DIB: freezing, operations on deep values and their rules. -/
namespace DI
open PySem PySem.Spec L2
open PyProof.Rows hiding St

/-! ### freezing -/
section
variable {X : Cx} {pins : List (Addr × Obj)} {σ : St} {H : Hp} {s : Shared} {p : Addr} {o u : HO} {ob : Obj}
/-- an object may be frozen as it stands -/
theorem frozen_inv (I : Inv X pins σ H s) (h : H p = some o) (nt : ∀ xs, o ≠ .tup xs) (nf : ∀ b v, o ≠ .frz b v) (nb : ∀ ps, o ≠ .tbl ps) (no : ∀ a, o ≠ .own a) (e : s.heap.get? p = some ob) : Inv X pins σ (upd H p (.frz ob o)) s := by
  have n1 : ∀ b xs, H b = some (.tup xs) → b ≠ p := fun b xs q z => by subst z; rw [q] at h; cases h; exact nt _ rfl
  have n2 : ∀ b x xs, H b = some (.frz x xs) → b ≠ p := fun b x xs q z => by subst z; rw [q] at h; cases h; exact nf _ _ rfl
  have n3 : ∀ b x, H b = some (.tbl x) → b ≠ p := fun b x q z => by subst z; rw [q] at h; cases h; exact nb _ rfl
  have n4 : ∀ b x, H b = some (.own x) → b ≠ p := fun b x q z => by subst z; rw [q] at h; cases h; exact no _ rfl
  have n0 : ∀ b, H b = none → b ≠ p := fun b q z => by subst z; rw [q] at h; cases h
  refine ⟨I.ok, I.os, I.bare, ⟨I.base.keep, I.base.slot, fun b x q n hx => ?_, I.base.there, fun b xs q => ?_, fun b x xs q => ?_, fun b ps q => ?_⟩, I.loc, I.cell, ?_, fun x c q => ?_, fun q hq => ?_, fun b v q => ?_, I.len⟩
  · rw [upd_ne (n0 b (I.base.free b x q n hx))]; exact I.base.free b x q n hx
  · rw [upd_ne (n1 b xs (I.base.tups b xs q))]; exact I.base.tups b xs q
  · rw [upd_ne (n2 b x xs (I.base.frzs b x xs q))]; exact I.base.frzs b x xs q
  · obtain ⟨more, z⟩ := I.base.tbls b ps q
    exact ⟨more, by rw [upd_ne (n3 b _ z)]; exact z⟩
  · rw [upd_ne (n0 _ I.free)]; exact I.free
  · rw [upd_ne (n0 _ (I.freeC x c q))]; exact I.freeC x c q
  · obtain ⟨a, b, c⟩ := I.pin q hq
    exact ⟨a, by rw [upd_ne (n0 _ b)]; exact b, c⟩
  · by_cases hb : b = p
    · subst hb
      rw [upd_same] at q; cases q
      refine ⟨e, (I.hok b o h).stay (fun _ _ _ z => z) (fun c z => ?_) fun c xs z => ?_⟩
      · rw [upd_ne (n4 c _ z)]; exact z
      · rw [upd_ne (n1 c xs z)]; exact z
    · rw [upd_ne hb] at q
      refine (I.hok b v q).stay (fun _ _ _ z => z) (fun c z => ?_) fun c xs z => ?_
      · rw [upd_ne (n4 c _ z)]; exact z
      · rw [upd_ne (n1 c xs z)]; exact z
theorem frz_lst {xs : List V} (I : Inv X pins σ H s) (h : H p = some (.lst xs)) : ∃ ob, Inv X pins σ (upd H p (.frz ob (.lst xs))) s := by
  obtain ⟨_, its, n, _, e⟩ := I.hok p _ h
  exact ⟨_, frozen_inv I h (fun _ z => nomatch z) (fun _ _ z => nomatch z) (fun _ z => nomatch z) (fun _ z => nomatch z) e⟩
theorem frz_dK {xs : List (Key × V)} (I : Inv X pins σ H s) (h : H p = some (.dK xs)) : ∃ ob, Inv X pins σ (upd H p (.frz ob (.dK xs))) s := by
  obtain ⟨_, _, vs, _, ob, _, _, e, _⟩ := I.hok p _ h
  exact ⟨_, frozen_inv I h (fun _ z => nomatch z) (fun _ _ z => nomatch z) (fun _ z => nomatch z) (fun _ z => nomatch z) e⟩
end
/-- what is wanted of a new list that is to be frozen -/
def WantF (Q : VK) : VK := fun v H1 => ∃ p xs, v = .ref p ∧ H1 p = some (.lst xs) ∧ ∀ o, Q v (upd H1 p (.frz o (.lst xs)))
def WantFd (Q : VK) : VK := fun v H1 => ∃ p xs, v = .ref p ∧ H1 p = some (.dK xs) ∧ ∀ o, Q v (upd H1 p (.frz o (.dK xs)))
section
variable {X : Cx} {pins : List (Addr × Obj)} {σ : St} {H : Hp} {s : Shared} {Q : VK} {u : Value}
theorem ep_frz (h : EP X pins σ (WantF Q) u s) : EP X pins σ Q u s := by
  obtain ⟨v, H', I, r, p, xs, rfl, hp, q⟩ := h
  obtain ⟨ob, J⟩ := frz_lst I hp
  exact ⟨_, _, J, r, q ob⟩
theorem ep_frzd (h : EP X pins σ (WantFd Q) u s) : EP X pins σ Q u s := by
  obtain ⟨v, H', I, r, p, xs, rfl, hp, q⟩ := h
  obtain ⟨ob, J⟩ := frz_dK I hp
  exact ⟨_, _, J, r, q ob⟩
theorem pe_frz {e : Expr} {t : TE} (h : PE X e t) : PE X e (fun σ H Q => t σ H (WantF Q)) := ⟨fun pins s σ H Q I q => thn (h.run pins s σ H _ I q) fun _ _ z => ep_frz z⟩
theorem pe_frzd {e : Expr} {t : TE} (h : PE X e t) : PE X e (fun σ H Q => t σ H (WantFd Q)) := ⟨fun pins s σ H Q I q => thn (h.run pins s σ H _ I q) fun _ _ z => ep_frzd z⟩
theorem op_frz {f : Value → Value → Sem Value} {r : R2} (h : OpR X f r) : OpR X f (fun x y H Q => r x y H (WantF Q)) := fun pins s σ H x y v u Q I rx ry q => thn (h pins s σ H x y v u _ I rx ry q) fun _ _ z => ep_frz z
theorem call_frz {f : Value} {r : List V → Hp → VK → Prop} (h : CallR X f r) : CallR X f (fun xs H Q => r xs H (WantF Q)) := fun pins s σ H xs us Q I r q => thn (h pins s σ H xs us _ I r q) fun _ _ z => ep_frz z
theorem sl_frz {r : V → Option Int → Option Int → Hp → VK → Prop} (h : SlR X r) : SlR X (fun x lo hi H Q => r x lo hi H (WantF Q)) := fun pins s σ H x v vl vu lo hi sl Q I rv hs pl pu q =>
  let ⟨T, id, a, b, c⟩ := h pins s σ H x v vl vu lo hi sl _ I rv hs pl pu q
  ⟨T, id, a, b, thn c fun _ _ z => ep_frz z⟩
end

/-! ### stores and the heap -/
section
variable {G : Gx} {t : List Addr} {H : Hp} {m : Sto} {p : Addr}
theorem OR.mono {t' : List Addr} {H' : Hp} {o : O} (le : Le t t') (e : Ext H H') (k : ∀ u, H p = some u → Soft u → H' p = some u) (h : OR G t H o p) : OR G t' H' o p := by
  cases o with
  | lst ds => obtain ⟨vs, a, b⟩ := h; exact ⟨vs, k _ a trivial, b.mono le e⟩
  | ins c fs => obtain ⟨C, dx, vs, a, b, r⟩ := h; exact ⟨C, dx, vs, a, k _ b trivial, r.mono le e⟩
  | dct kds => obtain ⟨vs, a, b⟩ := h; exact ⟨vs, k _ a trivial, b.mono le e⟩
  | dead => trivial
/-- a new object that the store does not know -/
theorem SS.new {o : HO} (h : SS G t H m) (hp : H p = none) : SS G t (upd H p o) m :=
  ⟨h.len, fun l x q => let ⟨a, b, c⟩ := h.ob l x q; ⟨a, b, c.mono (Le.refl t) (Ext.new hp) fun u hu _ => by rw [upd_ne (ne_of_none hu hp)]; exact hu⟩, fun a q => let ⟨u, e⟩ := h.kn a q; ⟨u, by rw [upd_ne (ne_of_none e hp)]; exact e⟩, h.inj⟩
/-- an object outside of the store is changed -/
theorem SS.out {o u : HO} (h : SS G t H m) (hp : p ∉ t) (e : H p = some o) (s : Soft o) : SS G t (upd H p u) m := by
  have ne : ∀ a, a ∈ t → a ≠ p := fun a q z => hp (by rw [← z]; exact q)
  refine ⟨h.len, fun l x q => ?_, fun a q => let ⟨u, e⟩ := h.kn a q; ⟨u, by rw [upd_ne (ne a q)]; exact e⟩, h.inj⟩
  obtain ⟨a, b, c⟩ := h.ob l x q
  exact ⟨a, b, c.mono (Le.refl t) (Ext.put e s) fun u hu _ => by rw [upd_ne (ne a (List.mem_of_getElem? b))]; exact hu⟩
theorem KO.now {d : D} {v : V} {Q : VK} (k : KO G (some (d, m)) t H Q) (ss : SS G t H m) (r : RD G t H d v) : Q v H := k v H t (Stp.refl t H) ss r
theorem KO.tup {ds : List D} {vs : List V} {Q : VK} (k : KO G (some (.tup ds, m)) t H Q) (ss : SS G t H m) (r : RDs G t H ds vs) (hp : H p = none) : Q (.ref p) (upd H p (.tup vs)) :=
  k _ _ t (Stp.fresh hp) (ss.new hp) (.tup (.inl (.inl upd_same)) (r.mono (Le.refl t) (Ext.new hp)))
theorem KO.lst {ds : List D} {vs : List V} {Q : VK} (k : KO G (some (.lst ds, m)) t H Q) (ss : SS G t H m) (r : RDs G t H ds vs) (hp : H p = none) : WantF Q (.ref p) (upd H p (.lst vs)) :=
  ⟨p, vs, rfl, upd_same, fun o => by
    rw [upd_upd]
    exact k _ _ t (Stp.fresh hp) (ss.new hp) (.lst ⟨o, upd_same⟩ (r.mono (Le.refl t) (Ext.new hp)))⟩
end

/-! ### plain data, equality -/
mutual
def toPy : D → Option PyData
  | .non => some .none
  | .bl b => some (.bool b)
  | .int i => some (.int i)
  | .str x => some (.str x)
  | .tup xs => (toPys xs).map .tuple
  | .lst xs => (toPys xs).map .list
  | .dct kvs => (toPyK kvs).map .dict
  | _ => none
def toPys : List D → Option (List PyData)
  | [] => some []
  | x :: r => match toPy x, toPys r with
    | some a, some b => some (a :: b)
    | _, _ => none
def toPyK : List (D × D) → Option (List (PyData × PyData))
  | [] => some []
  | (k, v) :: r => match toPy k, toPy v, toPyK r with
    | some a, some b, some c => some ((a, b) :: c)
    | _, _, _ => none
end
def hasDct (d : PyData) : Bool := d.hasDict
section
variable {G : Gx} {t : List Addr} {H : Hp}
mutual
theorem RD.dp : ∀ {d : D} {v : V} {y : PyData}, RD G t H d v → toPy d = some y → y.hasDict = false → Dp G.K H v y
  | _, _, _, .non, e, _ => by simp only [toPy, Option.some.injEq] at e; subst e; exact .non
  | _, _, _, .bl b, e, _ => by simp only [toPy, Option.some.injEq] at e; subst e; exact .bl b
  | _, _, _, .int b, e, _ => by simp only [toPy, Option.some.injEq] at e; subst e; exact .int b
  | _, _, _, .str b, e, _ => by simp only [toPy, Option.some.injEq] at e; subst e; exact .str b
  | _, _, _, .ty _, e, _ => by simp [toPy] at e
  | _, _, _, .tup s r, e, n => by
    simp only [toPy, Option.map_eq_some_iff] at e
    obtain ⟨ys, e1, rfl⟩ := e
    exact .tup s (RDs.dp r e1 (by simpa [PyData.hasDict] using n))
  | _, _, _, .lst s r, e, n => by
    simp only [toPy, Option.map_eq_some_iff] at e
    obtain ⟨ys, e1, rfl⟩ := e
    exact .lst s.l (RDs.dp r e1 (by simpa [PyData.hasDict] using n))
  | _, _, _, .dct s r, e, n => by
    simp only [toPy, Option.map_eq_some_iff] at e
    obtain ⟨ys, e1, rfl⟩ := e
    simp [PyData.hasDict] at n
  | _, _, _, .ref _, e, _ => by simp [toPy] at e
  | _, _, _, .fn _, e, _ => by simp [toPy] at e
  | _, _, _, .cls _, e, _ => by simp [toPy] at e
theorem RDs.dp : ∀ {d : List D} {v : List V} {y : List PyData}, RDs G t H d v → toPys d = some y → PyData.hasDictAll y = false → DpAll G.K H v y
  | _, _, _, .nil, e, _ => by simp only [toPys, Option.some.injEq] at e; subst e; exact .nil
  | _, _, _, .cons (d := d) (ds := ds) a b, e, n => by
    simp only [toPys] at e
    cases e1 : toPy d with
    | none => rw [e1] at e; simp at e
    | some y =>
      cases e2 : toPys ds with
      | none => rw [e1, e2] at e; simp at e
      | some ys =>
        rw [e1, e2] at e
        simp only [Option.some.injEq] at e
        subst e
        have n' : y.hasDict = false ∧ PyData.hasDictAll ys = false := by simpa [PyData.hasDictAll] using n
        exact .cons (RD.dp a e1 n'.1) (RDs.dp b e2 n'.2)
end
end
/-- == of data (dicts within: not asked) -/
def eqD (a b : D) : Option Bool := match toPy a, toPy b with
  | some x, some y => if SeqAt.shaped x && SeqAt.shaped y then some (PyData.eqv x y) else none
  | _, _ => none
theorem shaped_nodict {y : PyData} (h : SeqAt.shaped y = true) : y.hasDict = false := PyData.hasDict_of_canLay y (SeqAt.canLay_of_shaped h)
theorem eqD_some {a b : D} {r : Bool} (h : eqD a b = some r) : ∃ x y, toPy a = some x ∧ toPy b = some y ∧ SeqAt.shaped x = true ∧ SeqAt.shaped y = true ∧ r = PyData.eqv x y := by
  unfold eqD at h
  cases e1 : toPy a with
  | none => rw [e1] at h; simp at h
  | some x =>
    cases e2 : toPy b with
    | none => rw [e1, e2] at h; simp at h
    | some y =>
      rw [e1, e2] at h
      simp only at h
      split at h
      · rename_i c
        cases h
        obtain ⟨c1, c2⟩ := Bool.and_eq_true_iff.mp c
        exact ⟨x, y, rfl, rfl, c1, c2, rfl⟩
      · cases h
end DI

set_option Elab.async false
set_option linter.all false
set_option maxRecDepth 100000
set_option maxHeartbeats 4000000
/-! DIC: operators, comparisons, subscripts on deep values, and their rules. -/
namespace DI
open PySem PySem.Spec L2
open PyProof.Rows hiding St

def lim : Nat := 1000000
theorem lim_le {n : Nat} (h : n ≤ lim) : n ≤ sizeLine := Nat.le_trans h (by decide)
theorem lim_lt {n : Nat} (h : n < lim) : n < sizeLine := Nat.lt_of_lt_of_le h (by decide)
def repS (x : Str) (k : Int) : Str := ⟨(List.replicate k.toNat x.cps).foldl (· ++ ·) #[]⟩
/-- values of a binary operator; none: not served -/
def binV (op : Operator) (a b : D) : Option D := match op, a, b with
  | .Add, .int i, .int j => some (.int (i + j))
  | .Add, .str x, .str y => if x.length + y.length ≤ lim then some (.str (x ++ y)) else none
  | .Add, .tup xs, .tup ys => if xs.length + ys.length ≤ lim then some (.tup (xs ++ ys)) else none
  | .Add, .lst xs, .lst ys => if xs.length + ys.length ≤ lim then some (.lst (xs ++ ys)) else none
  | .Sub, .int i, .int j => some (.int (i - j))
  | .Mult, .int i, .int j => if i.natAbs.log2 + j.natAbs.log2 < 1000000 then some (.int (i * j)) else none
  | .Mult, .lst xs, .int k => if -(2 ^ 63) ≤ k ∧ k < 2 ^ 63 ∧ xs.length * k.toNat ≤ lim then some (.lst (List.replicate k.toNat xs).flatten) else none
  | .Mult, .tup xs, .int k => if 1 ≤ k ∧ k ≤ 1000 ∧ xs.length ≤ 1000 ∧ xs ≠ [] then some (.tup (List.replicate k.toNat xs).flatten) else if k = 0 ∧ xs ≠ [] then some (.tup []) else none
  | .Mult, .str x, .int k => if 2 ≤ k ∧ k ≤ 1000 ∧ 1 ≤ x.length ∧ x.length ≤ 1000 then some (.str (repS x k)) else none
  | .FloorDiv, .int i, .int j => if j ≠ 0 ∧ j.natAbs.log2 < 9000 then some (.int (i.fdiv j)) else none
  | .Mod, .int i, .int j => if j ≠ 0 then some (.int (i.fmod j)) else none
  | .Pow, .int i, .int j => if 0 ≤ j ∧ j ≤ 1000000 ∧ i.natAbs < 2 ^ 64 then some (.int (i ^ j.toNat)) else none
  | _, _, _ => none
instance : Decidable (xs = ([] : List D)) := match xs with
  | [] => isTrue rfl
  | _ :: _ => isFalse (fun z => nomatch z)

abbrev O2 := D → D → Sto → Option (D × Sto)
def binS (op : Operator) : O2 := fun a b m => (binV op a b).map fun d => (d, m)
def rO2 (G : Gx) (f : O2) : R2 := fun x y H Q => ∃ d1 d2 m t, SS G t H m ∧ RD G t H d1 x ∧ RD G t H d2 y ∧ KO G (f d1 d2 m) t H Q
theorem ko_map {G : Gx} {o : Option D} {m : Sto} {t : List Addr} {H : Hp} {Q : VK} (k : KO G (o.map fun d => (d, m)) t H Q) : ∃ d, o = some d ∧ KO G (some (d, m)) t H Q := by
  cases o with
  | none => exact k.elim
  | some d => exact ⟨d, rfl, k⟩

section
variable {X : Cx}
theorem tuple_mul1 (l : Addr) (items : Array Value) (n : Nat) (dd : Option Addr) (sl : Array (Option Value)) (u : Tok) :
    Meets (Builtin.«tuple.__mul__» ⟨[.ref l, .int 1 u], []⟩) (fun _ R s => s.heap.get? l = some { cls := .type "tuple", dict := dd, data := .seq items n, slots := sl } ∧ R (.ok (.ret (Value.ref l))) s) :=
  .of_wp fun prog w A R s h => by
    obtain ⟨hp, g, d, tk, os⟩ := s
    obtain ⟨hl, h⟩ := h
    have f1 := AutoSeq1.idx_int
    have c0 : (decide ((1 : Int) < -(2 ^ 63)) || decide ((1 : Int) ≥ 2 ^ 63)) = false := by decide
    have c1 : (items.isEmpty || (1 : Int) == 1) = true := by simp
    wp_walk using wpAny_loadPart' hl
    repeat (first
      | (refine wpAny_ite_false (decide_eq_false (by rw [c0]; exact Bool.false_ne_true)) ?_; wp_walk using wpAny_loadPart' hl)
      | (refine wpAny_ite_true (decide_eq_true (by rw [c1])) ?_; wp_walk using wpAny_loadPart' hl))
    exact ⟨_, rfl, h⟩
/-- a tuple times one: itself -/
theorem op_rep1 : OpR X (binaryOp .Mult) (fun x y H Q => ∃ l xs, x = .ref l ∧ y = .int 1 ∧ SqT X.K H l xs ∧ Q (.ref l) H) := by
  intro pins s σ H x y v u Q I rx ry h
  obtain ⟨l, xs, rfl, rfl, hT, q⟩ := h
  cases rx
  obtain ⟨t, rfl⟩ := ry
  obtain ⟨its, r, ⟨⟨cls, dd, data, sl⟩, ho, hc, n, hd⟩, hs⟩ := I.tuple hT
  simp only at hc hd
  subst hc hd
  refine wpAny_binaryOp_repeat_ref (T := "tuple") (U := "int") (by decide) ⟨_, ho, rfl⟩ (fun s' => typeIs_int s' 1 t) noFill_tuple_mul F.fills_int_mul F.slot_int_rmul repeat_tuple F.slot_int_index.lookup
    (call_meets F.slot_int_rmul (typeIs_int s 1 t) F.entry_int_rmul (F.args_int_rmul_2 _ _) (int_rmul_tuple 1 t l its.toArray n dd sl)
      ⟨ho, rfl, ⟨_, ho, rfl⟩, call_meets F.slot_tuple_mul ⟨_, ho, rfl⟩ F.entry_tuple_mul (F.args_tuple_mul_2 _ _) (tuple_mul1 l its.toArray n dd sl t) ⟨ho, ?_⟩⟩)
  exact ⟨.ref l, H, I, rfl, q⟩
theorem tuple_mul0 (l : Addr) (items : Array Value) (n : Nat) (dd : Option Addr) (sl : Array (Option Value)) (u : Tok) (c1 : (items.isEmpty || (0 : Int) == 1) = false) :
    Meets (Builtin.«tuple.__mul__» ⟨[.ref l, .int 0 u], []⟩) (fun _ R s => s.heap.get? l = some { cls := .type "tuple", dict := dd, data := .seq items n, slots := sl } ∧ R (.ok (.ret (Value.ref s.heap.objs.size))) { s with heap := s.heap.push { cls := Value.type "tuple", data := Data.seq #[] }, toks := s.toks }) :=
  .of_wp fun prog w A R s h => by
    obtain ⟨hp, g, d, tk, os⟩ := s
    obtain ⟨hl, h⟩ := h
    have f1 := AutoSeq1.idx_int
    have c0 : (decide ((0 : Int) < -(2 ^ 63)) || decide ((0 : Int) ≥ 2 ^ 63)) = false := by decide
    have c2 : (decide ((0 : Int) ≤ 0) || items.isEmpty) = true := by simp
    wp_walk using wpAny_loadPart' hl
    repeat (first
      | (refine wpAny_ite_false (decide_eq_false (by rw [c0]; exact Bool.false_ne_true)) ?_; wp_walk using wpAny_loadPart' hl)
      | (refine wpAny_ite_false (decide_eq_false (by rw [c1]; exact Bool.false_ne_true)) ?_; wp_walk using wpAny_loadPart' hl)
      | (refine wpAny_ite_true (decide_eq_true (by rw [c2])) ?_; wp_walk using wpAny_loadPart' hl))
    exact ⟨_, rfl, h⟩
/-- a tuple times nought: the empty one -/
theorem op_rep0 : OpR X (binaryOp .Mult) (fun x y H Q => ∃ l xs, x = .ref l ∧ y = .int 0 ∧ SqT X.K H l xs ∧ xs ≠ [] ∧ ∀ p, H p = none → Q (.ref p) (upd H p (.tup []))) := by
  intro pins s σ H x y v u Q I rx ry h
  obtain ⟨l, xs, rfl, rfl, hT, hne, q⟩ := h
  cases rx
  obtain ⟨t, rfl⟩ := ry
  obtain ⟨its, r, ⟨⟨cls, dd, data, sl⟩, ho, hc, n, hd⟩, hs⟩ := I.tuple hT
  simp only at hc hd
  subst hc hd
  have hle : its.length = xs.length := r.length.symm
  have hi : its.toArray.isEmpty = false := by
    cases its with
    | nil => exact absurd (List.eq_nil_of_length_eq_zero hle.symm) hne
    | cons a b => rfl
  refine wpAny_binaryOp_repeat_ref (T := "tuple") (U := "int") (by decide) ⟨_, ho, rfl⟩ (fun s' => typeIs_int s' 0 t) noFill_tuple_mul F.fills_int_mul F.slot_int_rmul repeat_tuple F.slot_int_index.lookup
    (call_meets F.slot_int_rmul (typeIs_int s 0 t) F.entry_int_rmul (F.args_int_rmul_2 _ _) (int_rmul_tuple 0 t l its.toArray n dd sl)
      ⟨ho, rfl, ⟨_, ho, rfl⟩, call_meets F.slot_tuple_mul ⟨_, ho, rfl⟩ F.entry_tuple_mul (F.args_tuple_mul_2 _ _) (tuple_mul0 l its.toArray n dd sl t (by rw [hi]; rfl)) ⟨ho, ?_⟩⟩)
  refine ⟨.ref s.heap.objs.size, _, I.laid (t' := s.toks) (o := .tup []) (fun b ob q => Heap.get?_push_of_some _ q) (Nat.le_refl _) ?_, rfl, q _ (I.hok.fresh (Nat.le_refl _))⟩
  exact ⟨Nat.zero_le _, [], .nil, IsTup.new _ _⟩
/-- the list that is read: mutable or frozen -/
def LsAt (H : Hp) (p : Addr) (xs : List V) : Prop := H p = some (.lst xs) ∨ SqF H p xs
theorem lsAt_obj {pins : List (Addr × Obj)} {σ : St} {H : Hp} {s : Shared} {l : Addr} {xs : List V} (I : Inv X pins σ H s) (hH : LsAt H l xs) : xs.length ≤ sizeLine ∧ ∃ (its : List Value) (n : Nat), Vals xs its ∧ xs.length = its.length ∧ s.heap.get? l = some { cls := .type "list", data := .seq its.toArray n } := by
  rcases hH with h | ⟨o, h⟩
  · obtain ⟨z, its, n, r, e⟩ := I.hok l _ h
    exact ⟨z, its, n, r, r.length, e⟩
  · obtain ⟨_, z, its, n, r, e⟩ := I.hok l _ h
    exact ⟨z, its, n, r, r.length, e⟩
theorem op_catF : OpR X (binaryOp .Add) (fun x y H Q => ∃ l b xs zs, x = .ref l ∧ y = .ref b ∧ LsAt H l xs ∧ LsAt H b zs ∧ xs.length + zs.length ≤ sizeLine ∧ ∀ p, H p = none → Q (.ref p) (upd H p (.lst (xs ++ zs)))) := by
  intro pins s σ H x y v u Q I rx ry h
  obtain ⟨l, b, xs, zs, rfl, rfl, hH, hB, hz, q⟩ := h
  cases rx
  cases ry
  obtain ⟨z, its, n, r, hl, e⟩ := lsAt_obj I hH
  obtain ⟨z2, its2, n2, r2, hl2, e2⟩ := lsAt_obj I hB
  refine PySem.P.add_list e e2 ?_ (by rw [List.size_toArray, List.size_toArray]; omega)
  have ea : its.toArray ++ its2.toArray = (its ++ its2).toArray := by simp
  rw [ea]
  exact ⟨.ref _, _, I.lnew (t' := s.toks) (r.append r2) (by rw [List.length_append]; omega), rfl, q _ I.fresh⟩
theorem op_repF : OpR X (binaryOp .Mult) (fun x y H Q => ∃ l k xs, x = .ref l ∧ y = .int k ∧ LsAt H l xs ∧ -(2 ^ 63) ≤ k ∧ k < 2 ^ 63 ∧ xs.length * k.toNat ≤ sizeLine ∧ ∀ p, H p = none → Q (.ref p) (upd H p (.lst (List.replicate k.toNat xs).flatten))) := by
  intro pins s σ H x y v u Q I rx ry h
  obtain ⟨l, k, xs, rfl, rfl, hH, h1, h2, hz, q⟩ := h
  cases rx
  obtain ⟨t, rfl⟩ := ry
  obtain ⟨z, its, n, r, hl, e⟩ := lsAt_obj I hH
  have lenk : its.toArray.size * k.toNat ≤ sizeLine := by rw [List.size_toArray, ← hl]; exact hz
  have capk : ¬ its.toArray.size * k.toNat > (2 ^ 63 - 1) / 8 := by
    have : (sizeLine : Nat) ≤ (2 ^ 63 - 1) / 8 := by decide
    omega
  have fitk : ¬ (!Builtin.List.listFitsIndex k) = true := by
    rw [PySem.fitsIndex_both h1 h2]; exact Bool.false_ne_true
  have longk : ¬ Builtin.List.listTooLong (its.toArray.size * k.toNat) = true := by
    rw [notLongL lenk]; exact Bool.false_ne_true
  have newk : List.foldl (fun x1 x2 => x1 ++ x2) #[] (List.replicate (if its.toArray.isEmpty = true then 0 else k.toNat) its.toArray) = (List.replicate k.toNat its).flatten.toArray := by
    have f0 : ∀ m : Nat, List.foldl (fun x1 x2 => x1 ++ x2) #[] (List.replicate m its.toArray) = (List.replicate m its).flatten.toArray := fun m => size_rep its m
    rw [f0]
    cases its with
    | nil => simp
    | cons a r' => rw [if_neg (by simp)]
  refine wpAny_binaryOp_repeat_ref (T := "list") (U := "int") (by decide) ⟨_, e, rfl⟩ (fun s' => typeIs_int s' k t) noFill_list_mul F.fills_int_mul F.slot_int_rmul repeat_list F.slot_int_index.lookup
    (call_meets F.slot_int_rmul (typeIs_int s k t) F.entry_int_rmul (F.args_int_rmul_2 _ _) (int___rmul___int_list k t l its.toArray n)
      ⟨e, rfl, ⟨_, e, rfl⟩, call_meets F.slot_list_mul ⟨_, e, rfl⟩ F.entry_list_mul (F.args_list_mul_2 _ _) (AutoListH.list___mul___list_int_3 l its.toArray n k t fitk capk longk) ⟨e, ?_⟩⟩)
  rw [newk]
  exact ⟨.ref _, _, I.lnew (t' := s.toks) (r.rep k.toNat) (by rw [PyProof.Rows.lm_len_rep_flat, Nat.mul_comm]; exact hz), rfl, q _ I.fresh⟩
def CMulX (i j : Int) : Prop := i.natAbs.log2 + j.natAbs.log2 < 1000000
theorem op_mulX : OpR X (binaryOp .Mult) (rI CMulX fun i j => .int (i * j)) := opI fun _ _ _ _ _ _ _ hc q => mul_int q (CMulW.ok (show CMulW _ _ from hc))
theorem op_fdivX : OpR X (binaryOp .FloorDiv) (rI (fun _ j => j ≠ 0 ∧ j.natAbs.log2 < 9000) fun i j => .int (i.fdiv j)) := opI fun _ _ _ _ _ _ _ hc q => floordiv_int hc.1 q (.inl (PyProof.noPylong_of_log2 hc.2))

theorem rep_len (a : Array Nat) : ∀ (n : Nat) (acc : Array Nat), ((List.replicate n a).foldl (· ++ ·) acc).size = acc.size + n * a.size
  | 0, acc => by simp
  | n + 1, acc => by
    rw [List.replicate_succ, List.foldl_cons, rep_len a n, Array.size_append, Nat.succ_mul]
    omega
theorem op_rep_str : OpR X (binaryOp .Mult) (fun x y H Q => ∃ a k, x = .str a ∧ y = .int k ∧ 2 ≤ k ∧ k ≤ 1000 ∧ 1 ≤ a.length ∧ a.length ≤ 1000 ∧ Q (.str (repS a k)) H) := by
  intro pins s σ H x y v u Q I rx ry h
  obtain ⟨a, k, rfl, rfl, h1, h2, h3, h4, q⟩ := h
  obtain ⟨t, rfl⟩ := rx
  obtain ⟨t', rfl⟩ := ry
  have z1 : ¬ k < 1 := by omega
  have z2 : (k == 1 || a.length == 0) = false := by
    rw [Bool.or_eq_false_iff, beq_eq_false_iff_ne, beq_eq_false_iff_ne]; omega
  have z3 : a.length * k.toNat ≤ 1000 * 1000 := Nat.mul_le_mul h4 (by omega)
  refine PySem.P.mul_str (by
      rw [decide_eq_false (by omega), decide_eq_false (by omega)]; rfl) (fun _ _ => ?_) (fun _ _ => ?_) ?_
  · have : (1000 : Int) ≤ (2 ^ 63 - 1) / k := (Int.le_ediv_iff_mul_le (by omega)).mpr (by omega)
    omega
  · exact decide_eq_false (by simp only [sizeLine]; omega)
  · rw [if_neg z1, if_neg (by rw [z2]; exact Bool.false_ne_true)]
    refine ⟨?_, ⟨.str (repS a k), H, I.tok _, ⟨_, rfl⟩, q⟩⟩
    show ((List.replicate k.toNat a.cps).foldl (· ++ ·) #[]).size ≤ _
    rw [rep_len]
    have : k.toNat * a.cps.size = a.length * k.toNat := Nat.mul_comm _ _
    simp only [sizeLine]
    simp
    omega
variable {G : Gx}
theorem op_bin (hK : G.K = X.K) (op : Operator) : OpR X (binaryOp op) (rO2 G (binS op)) := by
  intro pins s σ H x y v u Q I rx ry h
  obtain ⟨d1, d2, m, t, ss, r1, r2, k⟩ := h
  obtain ⟨d, e, k⟩ := ko_map k
  unfold binV at e
  split at e
  · cases e; cases r1; cases r2
    exact op_add pins s σ H _ _ v u Q I rx ry ⟨_, _, rfl, rfl, k.now ss (.int _)⟩
  · split at e
    · rename_i c; cases e; cases r1; cases r2
      exact op_add_str pins s σ H _ _ v u Q I rx ry ⟨_, _, rfl, rfl, lim_le c, k.now ss (.str _)⟩
    · cases e
  · split at e
    · rename_i c; cases e
      cases r1 with
      | tup s1 q1 =>
        cases r2 with
        | tup s2 q2 =>
          rw [hK] at s1 s2
          refine op_catA pins s σ H _ _ v u Q I rx ry ⟨_, _, _, _, rfl, rfl, s1, s2, ?_, fun z => ?_, fun _ z => ?_, fun _ _ p hp => k.tup ss (q1.append q2) hp⟩
          · rw [← q1.length, ← q2.length]; exact lim_le c
          · subst z; cases q1
            exact k.now ss (.tup (by rw [hK]; exact s2) q2)
          · subst z; cases q2
            refine k.now ss (.tup (by rw [hK]; exact s1) ?_)
            rw [List.append_nil]; exact q1
    · cases e
  · split at e
    · rename_i c; cases e
      cases r1 with
      | lst s1 q1 =>
        cases r2 with
        | lst s2 q2 =>
          refine op_frz op_catF pins s σ H _ _ v u Q I rx ry ⟨_, _, _, _, rfl, rfl, .inr s1, .inr s2, ?_, fun p hp => k.lst ss (q1.append q2) hp⟩
          rw [← q1.length, ← q2.length]; exact lim_le c
    · cases e
  · cases e; cases r1; cases r2
    exact op_sub pins s σ H _ _ v u Q I rx ry ⟨_, _, rfl, rfl, k.now ss (.int _)⟩
  · split at e
    · rename_i c; cases e; cases r1; cases r2
      exact op_mulX pins s σ H _ _ v u Q I rx ry ⟨_, _, rfl, rfl, c, k.now ss (.int _)⟩
    · cases e
  · split at e
    · rename_i c; cases e
      cases r2
      cases r1 with
      | lst s1 q1 =>
        refine op_frz op_repF pins s σ H _ _ v u Q I rx ry ⟨_, _, _, rfl, rfl, .inr s1, c.1, c.2.1, ?_, fun p hp => k.lst ss (q1.rep _) hp⟩
        rw [← q1.length]; exact lim_le c.2.2
    · cases e
  · split at e
    · rename_i xs i c; cases e
      obtain ⟨c1, c2, c3, c4⟩ := c
      cases r2
      cases r1 with
      | tup s1 q1 =>
        rename_i a vs
        rw [hK] at s1
        by_cases z : i = 1
        · subst z
          refine op_rep1 pins s σ H _ _ v u Q I rx ry ⟨_, _, rfl, rfl, s1, k.now ss (.tup (by rw [hK]; exact s1) ?_)⟩
          simpa using q1
        · refine op_repT pins s σ H _ _ v u Q I rx ry ⟨_, _, _, rfl, rfl, s1, ?_, by omega, c2, by rw [← q1.length]; exact c3, fun p hp => k.tup ss (q1.rep _) hp⟩
          intro z2
          subst z2
          cases q1
          exact c4 rfl
    · split at e
      · rename_i c; cases e
        have kk : KO G (some (D.tup [], m)) t H Q := k
        obtain ⟨rfl, c4⟩ := c
        cases r2
        cases r1 with
        | tup s1 q1 =>
          rw [hK] at s1
          refine op_rep0 pins s σ H _ _ v u Q I rx ry ⟨_, _, rfl, rfl, s1, fun z => ?_, fun p hp => kk.tup ss .nil hp⟩
          subst z
          cases q1
          exact c4 rfl
      · cases e
  · split at e
    · rename_i c; cases e; cases r1; cases r2
      exact op_rep_str pins s σ H _ _ v u Q I rx ry ⟨_, _, rfl, rfl, c.1, c.2.1, c.2.2.1, c.2.2.2, k.now ss (.str _)⟩
    · cases e
  · split at e
    · rename_i c; cases e; cases r1; cases r2
      exact op_fdivX pins s σ H _ _ v u Q I rx ry ⟨_, _, rfl, rfl, c, k.now ss (.int _)⟩
    · cases e
  · split at e
    · rename_i c; cases e; cases r1; cases r2
      exact op_modN pins s σ H _ _ v u Q I rx ry ⟨_, _, rfl, rfl, c, k.now ss (.int _)⟩
    · cases e
  · split at e
    · rename_i c; cases e; cases r1; cases r2
      exact op_pow pins s σ H _ _ v u Q I rx ry ⟨_, _, rfl, rfl, c, k.now ss (.int _)⟩
    · cases e
  · cases e

/-! ### comparisons -/
def isBase : D → Bool
  | .non => true | .bl _ => true | .int _ => true | .str _ => true
  | _ => false
def eqFl (x y : D) : Bool := match x, y with
  | .non, .non => true
  | .bl a, .bl b => a == b
  | .bl a, .int b => (if a then 1 else 0) == b
  | .int a, .bl b => a == (if b then 1 else 0)
  | .int a, .int b => a == b
  | .str a, .str b => a == b
  | _, _ => false
def inFl (x : D) (xs : List D) : Option Bool := if isBase x && xs.all isBase then some (xs.any fun y => eqFl y x) else none
def isV : D → D → Option Bool
  | .bl a, .bl b => some (a == b)
  | .non, .non => some true
  | _, .non => some false
  | _, _ => none
def cmpB (op : CmpOp) (a b : D) : Option Bool := match op, a, b with
  | .Lt, .int i, .int j => some (decide (i < j))
  | .LtE, .int i, .int j => some (decide (i ≤ j))
  | .Gt, .int i, .int j => some (decide (j < i))
  | .GtE, .int i, .int j => some (decide (j ≤ i))
  | .Eq, .str x, .str y => some (x == y)
  | .NotEq, .str x, .str y => some (!(x == y))
  | .Eq, .int x, .int y => some (x == y)
  | .NotEq, .int x, .int y => some (!(x == y))
  | .Eq, a, b => eqD a b
  | .NotEq, a, b => (eqD a b).map fun r => !r
  | .Is, a, b => isV a b
  | .IsNot, a, b => (isV a b).map fun r => !r
  | .In, .str x, .str y => some (!(Builtin.Str.occurrences y x 0 y.length 1).isEmpty)
  | .NotIn, .str x, .str y => some (!(!(Builtin.Str.occurrences y x 0 y.length 1).isEmpty))
  | .In, x, .tup ys => inFl x ys
  | .In, x, .lst ys => inFl x ys
  | .NotIn, x, .tup ys => (inFl x ys).map fun r => !r
  | .NotIn, x, .lst ys => (inFl x ys).map fun r => !r
  | _, _, _ => none
def cmpS (op : CmpOp) : O2 := fun a b m => (cmpB op a b).map fun r => (.bl r, m)
theorem base_flat {t : List Addr} {H : Hp} {d : D} {v : V} (r : RD G t H d v) (h : isBase d = true) : flatV v = true := by
  cases r <;> first | rfl | (simp [isBase] at h)
theorem base_eq {t : List Addr} {H : Hp} {d e : D} {v u : V} (r : RD G t H d v) (q : RD G t H e u) : eqV v u = eqFl d e := by
  cases r <;> cases q <;> first | rfl | (simp [eqV, eqFl])
theorem base_all {t : List Addr} {H : Hp} : ∀ {ds : List D} {vs : List V}, RDs G t H ds vs → ds.all isBase = true → vs.all flatV = true
  | _, _, .nil, _ => rfl
  | _, _, .cons a b, h => by
    simp only [List.all_cons, Bool.and_eq_true] at h ⊢
    exact ⟨base_flat a h.1, base_all b h.2⟩
theorem base_any {t : List Addr} {H : Hp} {x : D} {w : V} (q : RD G t H x w) : ∀ {ds : List D} {vs : List V}, RDs G t H ds vs → inV w vs = ds.any fun y => eqFl y x
  | _, _, .nil => rfl
  | _, _, .cons a b => by
    have ih := base_any q b
    unfold inV at ih ⊢
    rw [List.any_cons, List.any_cons, ih, base_eq a q]
theorem inFl_some {x : D} {xs : List D} {r : Bool} (h : inFl x xs = some r) : isBase x = true ∧ xs.all isBase = true ∧ r = xs.any fun y => eqFl y x := by
  unfold inFl at h
  split at h
  · rename_i c
    obtain ⟨c1, c2⟩ := Bool.and_eq_true_iff.mp c
    cases h
    exact ⟨c1, c2, rfl⟩
  · cases h
theorem isV_bl {a b : D} {r : Bool} (h : isV a b = some r) : (∃ x y, a = .bl x ∧ b = .bl y ∧ r = (x == y)) ∨ (b = .non ∧ ∀ {t : List Addr} {H : Hp} {v : V}, RD G t H a v → r = decide (v = .non)) := by
  unfold isV at h
  split at h
  · cases h; exact .inl ⟨_, _, rfl, rfl, rfl⟩
  · cases h; exact .inr ⟨rfl, fun q => by cases q; rfl⟩
  · rename_i n1
    cases h
    refine .inr ⟨rfl, fun q => ?_⟩
    cases q <;> first | (exact absurd rfl n1) | simp
  · cases h
/-- what the one comparison asks of the room -/
theorem op_cmp (hK : G.K = X.K) (hu : X.A.units + 64 < cLine) (op : CmpOp) : OpR X (compareOp op) (rO2 G (cmpS op)) := by
  intro pins s σ H x y v u Q I rx ry h
  obtain ⟨d1, d2, m, t, ss, r1, r2, k⟩ := h
  have k' : KO G ((cmpB op d1 d2).map fun r => (D.bl r, m)) t H Q := k
  clear k
  obtain ⟨b, e, k⟩ : ∃ b, cmpB op d1 d2 = some b ∧ KO G (some (D.bl b, m)) t H Q := by
    cases z : cmpB op d1 d2 with
    | none => rw [z] at k'; exact k'.elim
    | some b => rw [z] at k'; exact ⟨b, rfl, k'⟩
  have fin : Q (.bl b) H := k.now ss (.bl _)
  unfold cmpB at e
  split at e
  · cases e; cases r1; cases r2; exact op_lt pins s σ H _ _ v u Q I rx ry ⟨_, _, rfl, rfl, fin⟩
  · cases e; cases r1; cases r2; exact op_le pins s σ H _ _ v u Q I rx ry ⟨_, _, rfl, rfl, fin⟩
  · cases e; cases r1; cases r2; exact op_gt pins s σ H _ _ v u Q I rx ry ⟨_, _, rfl, rfl, fin⟩
  · cases e; cases r1; cases r2; exact op_ge pins s σ H _ _ v u Q I rx ry ⟨_, _, rfl, rfl, fin⟩
  · cases e; cases r1; cases r2; exact op_eq pins s σ H _ _ v u Q I rx ry ⟨rfl, by rw [dec_str]; exact fin⟩
  · cases e; cases r1; cases r2; exact op_ne pins s σ H _ _ v u Q I rx ry ⟨rfl, by rw [dec_str]; exact fin⟩
  · cases e; cases r1; cases r2; exact op_eq pins s σ H _ _ v u Q I rx ry ⟨rfl, by rw [dec_int]; exact fin⟩
  · cases e; cases r1; cases r2; exact op_ne pins s σ H _ _ v u Q I rx ry ⟨rfl, by rw [dec_int]; exact fin⟩
  · obtain ⟨x1, y1, e1, e2, s1, s2, rfl⟩ := eqD_some e
    have p1 := RD.dp r1 e1 (shaped_nodict s1)
    have p2 := RD.dp r2 e2 (shaped_nodict s2)
    rw [hK] at p1 p2
    exact op_eqD hu pins s σ H _ _ v u Q I rx ry ⟨_, _, p1, p2, s1, s2, fin⟩
  · obtain ⟨b', e', rfl⟩ := Option.map_eq_some_iff.mp e
    obtain ⟨x1, y1, e1, e2, s1, s2, rfl⟩ := eqD_some e'
    have p1 := RD.dp r1 e1 (shaped_nodict s1)
    have p2 := RD.dp r2 e2 (shaped_nodict s2)
    rw [hK] at p1 p2
    exact op_neD hu pins s σ H _ _ v u Q I rx ry ⟨_, _, p1, p2, s1, s2, fin⟩
  · rcases isV_bl e with ⟨x1, y1, rfl, rfl, rfl⟩ | ⟨rfl, q⟩
    · cases r1; cases r2
      exact op_is_bl pins s σ H _ _ v u Q I rx ry ⟨_, _, rfl, rfl, by rw [← Bool.beq_eq_decide_eq]; exact fin⟩
    · cases r2
      exact op_isN pins s σ H _ _ v u Q I rx ry ⟨rfl, by rw [← q r1]; exact fin⟩
  · obtain ⟨b', e', rfl⟩ := Option.map_eq_some_iff.mp e
    rcases isV_bl e' with ⟨x1, y1, rfl, rfl, rfl⟩ | ⟨rfl, q⟩
    · cases r1; cases r2
      exact op_isnot_bl pins s σ H _ _ v u Q I rx ry ⟨_, _, rfl, rfl, by rw [← Bool.beq_eq_decide_eq]; exact fin⟩
    · cases r2
      exact op_notN pins s σ H _ _ v u Q I rx ry ⟨rfl, by rw [← q r1]; exact fin⟩
  · cases e; cases r1; cases r2; exact op_in_str pins s σ H _ _ v u Q I rx ry ⟨_, _, rfl, rfl, fin⟩
  · cases e; cases r1; cases r2; exact op_notin_str pins s σ H _ _ v u Q I rx ry ⟨_, _, rfl, rfl, fin⟩
  · obtain ⟨f1, f2, rfl⟩ := inFl_some e
    cases r2 with
    | tup s1 q1 =>
      rw [hK] at s1
      exact op_in_seq pins s σ H _ _ v u Q I rx ry ⟨_, _, rfl, .inr s1, base_flat r1 f1, base_all q1 f2, by rw [base_any r1 q1]; exact fin⟩
  · obtain ⟨f1, f2, rfl⟩ := inFl_some e
    cases r2 with
    | lst s1 q1 => exact op_in_seq pins s σ H _ _ v u Q I rx ry ⟨_, _, rfl, .inl s1.l, base_flat r1 f1, base_all q1 f2, by rw [base_any r1 q1]; exact fin⟩
  · obtain ⟨b', e', rfl⟩ := Option.map_eq_some_iff.mp e
    obtain ⟨f1, f2, rfl⟩ := inFl_some e'
    cases r2 with
    | tup s1 q1 =>
      rw [hK] at s1
      exact op_notIn_seq pins s σ H _ _ v u Q I rx ry ⟨_, _, rfl, .inr s1, base_flat r1 f1, base_all q1 f2, by rw [base_any r1 q1]; exact fin⟩
  · obtain ⟨b', e', rfl⟩ := Option.map_eq_some_iff.mp e
    obtain ⟨f1, f2, rfl⟩ := inFl_some e'
    cases r2 with
    | lst s1 q1 => exact op_notIn_seq pins s σ H _ _ v u Q I rx ry ⟨_, _, rfl, .inl s1.l, base_flat r1 f1, base_all q1 f2, by rw [base_any r1 q1]; exact fin⟩
  · cases e
end
end DI

set_option Elab.async false
set_option linter.all false
set_option maxRecDepth 100000
set_option maxHeartbeats 4000000
/-! DID: truth, subscripts, slices, calls of built-ins on deep values, and their rules. -/
namespace DI
open PySem PySem.Spec L2
open PyProof.Rows hiding St

section
variable {X : Cx} {G : Gx}
/-! ### what a reference holds -/
theorem SS.lst {t : List Addr} {H : Hp} {m : Sto} {l : Nat} {xs : List D} {a : Addr} (ss : SS G t H m) (h : m[l]? = some (.lst xs)) (ha : t[l]? = some a) : ∃ vs, H a = some (.lst vs) ∧ RDs G t H xs vs := by
  obtain ⟨p, e, o⟩ := ss.ob l _ h
  rw [ha] at e; cases e
  exact o
/-! ### truth -/
def truO (d : D) (m : Sto) : Option Bool := match d with
  | .non => some false
  | .bl b => some b
  | .int i => some (i != 0)
  | .str x => if x.length ≤ lim then some ((x.length : Int) != 0) else none
  | .tup xs => some (!xs.isEmpty)
  | .lst xs => some (!xs.isEmpty)
  | .ref l => match m[l]? with
    | some (.lst xs) => some (!xs.isEmpty)
    | _ => none
  | _ => none
def rTru (G : Gx) : V → Hp → (Bool → Hp → Prop) → Prop := fun x H Q => ∃ d m t b, SS G t H m ∧ RD G t H d x ∧ truO d m = some b ∧ Q b H
theorem RDs.empty {t : List Addr} {H : Hp} {ds : List D} {vs : List V} (r : RDs G t H ds vs) : (!vs.isEmpty) = !ds.isEmpty := by cases r <;> rfl
theorem truV_di (hK : G.K = X.K) {t : List Addr} {H : Hp} {m : Sto} {d : D} {x : V} {b : Bool} (ss : SS G t H m) (r : RD G t H d x) (e : truO d m = some b) : TruV X.K x H b := by
  unfold truO at e
  split at e
  · cases e; cases r; rfl
  · cases e; cases r; rfl
  · cases e; cases r; rfl
  · split at e
    · rename_i c; cases e; cases r; exact ⟨lim_le c, rfl⟩
    · cases e
  · cases e
    cases r with
    | tup s1 q1 => rw [hK] at s1; exact .inr (.inl ⟨_, s1, q1.empty.symm⟩)
  · cases e
    cases r with
    | lst s1 q1 => exact .inl ⟨_, s1.l, q1.empty.symm⟩
  · split at e
    · rename_i hl
      cases e
      cases r with
      | ref ha =>
        obtain ⟨vs, hv, q1⟩ := ss.lst hl ha
        exact .inl ⟨_, .inl (.inl hv), q1.empty.symm⟩
    · cases e
  · cases e
/-! ### one operand -/
abbrev O1 := D → Sto → Option (D × Sto)
def unV (op : UnaryOp) (a : D) : Option D := match op, a with
  | .USub, .int i => some (.int (-i))
  | _, _ => none
def unS (op : UnaryOp) : O1 := fun a m => (unV op a).map fun d => (d, m)
def rO1 (G : Gx) (f : O1) : V → Hp → VK → Prop := fun x H Q => ∃ d m t, SS G t H m ∧ RD G t H d x ∧ KO G (f d m) t H Q
theorem un_di (op : UnaryOp) : UnR X (unaryOp op) (rO1 G (unS op)) := by
  intro pins s σ H x v Q I rx h
  obtain ⟨d, m, t, ss, r, k⟩ := h
  obtain ⟨d', e, k⟩ := ko_map k
  unfold unV at e
  split at e
  · cases e; cases r
    exact un_neg pins s σ H _ v Q I rx ⟨_, rfl, k.now ss (.int _)⟩
  · cases e
/-! ### subscripts -/
def ixO : O2 := fun a i m => match a, i with
  | .lst xs, .int i => (atI xs i).map fun d => (d, m)
  | .tup xs, .int i => (atI xs i).map fun d => (d, m)
  | .str z, .int i => if z.length ≤ lim then (atI z.cps.toList i).map fun c => (.str ⟨#[c]⟩, m) else none
  | .ref l, .int i => match m[l]? with
    | some (.lst xs) => (atI xs i).map fun d => (d, m)
    | _ => none
  | _, _ => none
theorem RDs.at {t : List Addr} {H : Hp} {ds : List D} {vs : List V} {i : Int} {d : D} (r : RDs G t H ds vs) (e : atI ds i = some d) : ∃ v, atI vs i = some v ∧ RD G t H d v := by
  unfold atI at e ⊢
  rw [← r.length]
  cases q : ixN ds.length i with
  | none => rw [q] at e; cases e
  | some j =>
    rw [q] at e
    exact r.get e
theorem ix_di (hK : G.K = X.K) : IxR X (rO2 G ixO) := by
  intro value slice pins s σ H x y v u Q I rx ry h hs
  obtain ⟨d1, d2, m, t, ss, r1, r2, k⟩ := h
  unfold ixO at k
  split at k
  · obtain ⟨d, e, k⟩ := ko_map k
    cases r2
    cases r1 with
    | lst s1 q1 =>
      obtain ⟨w, hw, rw'⟩ := q1.at e
      exact ix_list value slice pins s σ H _ _ v u Q I rx ry ⟨_, _, _, _, rfl, rfl, s1.l, hw, k.now ss rw'⟩ hs
  · obtain ⟨d, e, k⟩ := ko_map k
    cases r2
    cases r1 with
    | tup s1 q1 =>
      rw [hK] at s1
      obtain ⟨w, hw, rw'⟩ := q1.at e
      exact ix_tup value slice pins s σ H _ _ v u Q I rx ry ⟨_, _, _, _, rfl, rfl, s1, hw, k.now ss rw'⟩ hs
  · split at k
    · rename_i z i c
      cases e : atI z.cps.toList i with
      | none => rw [e] at k; exact k.elim
      | some cc =>
        rw [e] at k
        cases r1; cases r2
        exact ix_str value slice pins s σ H _ _ v u Q I rx ry ⟨_, _, _, rfl, rfl, lim_le c, e, KO.now k ss (.str _)⟩ hs
    · exact k.elim
  · split at k
    · rename_i hl
      obtain ⟨d, e, k⟩ := ko_map k
      cases r2
      cases r1 with
      | ref ha =>
        obtain ⟨vs, hv, q1⟩ := ss.lst hl ha
        obtain ⟨w, hw, rw'⟩ := q1.at e
        exact ix_list value slice pins s σ H _ _ v u Q I rx ry ⟨_, _, _, _, rfl, rfl, .inl (.inl hv), hw, k.now ss rw'⟩ hs
    · exact k.elim
  · exact k.elim
/-- xs[lo:hi] -/
def cutD {α : Type} (xs : List α) (lo hi : Option Int) : List α := (xs.drop (HT.sIx xs.length 0 lo)).take (HT.sIx xs.length xs.length hi - HT.sIx xs.length 0 lo)
theorem RDs.cut {t : List Addr} {H : Hp} {ds : List D} {vs : List V} (r : RDs G t H ds vs) (lo hi : Option Int) : RDs G t H (cutD ds lo hi) (cutV vs lo hi) := by
  unfold cutD cutV
  rw [r.length]
  exact (r.drop _).take _
def slO (a : D) (lo hi : Option Int) (m : Sto) : Option (D × Sto) := match a with
  | .lst xs => some (.lst (cutD xs lo hi), m)
  | .tup xs => some (.tup (cutD xs lo hi), m)
  | .str z => if z.length ≤ lim then some (.str (Txt.slice z lo hi), m) else none
  | .ref l => match m[l]? with
    | some (.lst xs) => some (.lst (cutD xs lo hi), m)
    | _ => none
  | _ => none
def rSlO (G : Gx) : V → Option Int → Option Int → Hp → VK → Prop := fun x lo hi H Q => ∃ d m t, SS G t H m ∧ RD G t H d x ∧ KO G (slO d lo hi m) t H Q
theorem cut_whole {α : Type} {xs : List α} {lo hi : Option Int} (h : HT.sIx xs.length 0 lo = 0 ∧ HT.sIx xs.length xs.length hi = xs.length) : cutD xs lo hi = xs := by
  unfold cutD
  rw [h.1, h.2, List.drop_zero, Nat.sub_zero, List.take_length]
theorem sl_di (hK : G.K = X.K) : SlR X (rSlO G) := by
  intro pins s σ H x v vl vu lo hi sl Q I rx hs pl pu h
  obtain ⟨d, m, t, ss, r, k⟩ := h
  unfold slO at k
  split at k
  · cases r with
    | lst s1 q1 => exact sl_frz sl_list pins s σ H _ v vl vu lo hi sl Q I rx hs pl pu ⟨_, _, rfl, s1.l, fun p hp => KO.lst k ss (q1.cut lo hi) hp⟩
  · cases r with
    | tup s1 q1 =>
      refine sl_tupA pins s σ H _ v vl vu lo hi sl Q I rx hs pl pu ⟨_, _, rfl, by rw [← hK]; exact s1, fun z => ?_, fun _ p hp => KO.tup k ss (q1.cut lo hi) hp⟩
      rw [← q1.length] at z
      rw [cut_whole z] at k
      exact KO.now k ss (.tup s1 q1)
  · split at k
    · rename_i c
      cases r
      exact C8.sl_txt pins s σ H _ v vl vu lo hi sl Q I rx hs pl pu ⟨_, rfl, lim_le c, KO.now k ss (.str _)⟩
    · exact k.elim
  · split at k
    · rename_i hl
      cases r with
      | ref ha =>
        obtain ⟨vs, hv, q1⟩ := ss.lst hl ha
        exact sl_frz sl_list pins s σ H _ v vl vu lo hi sl Q I rx hs pl pu ⟨_, _, rfl, .inl (.inl hv), fun p hp => KO.lst k ss (q1.cut lo hi) hp⟩
    · exact k.elim
  · exact k.elim
/-! ### calls of built-ins -/
abbrev ON := List D → Sto → Option (D × Sto)
def rON (G : Gx) (f : ON) : List V → Hp → VK → Prop := fun xs H Q => ∃ ds m t, SS G t H m ∧ RDs G t H ds xs ∧ KO G (f ds m) t H Q
theorem RDs.one {t : List Addr} {H : Hp} {d : D} {vs : List V} (r : RDs G t H [d] vs) : ∃ v, vs = [v] ∧ RD G t H d v := by
  cases r with
  | cons a b => cases b; exact ⟨_, rfl, a⟩
theorem RDs.two {t : List Addr} {H : Hp} {d e : D} {vs : List V} (r : RDs G t H [d, e] vs) : ∃ v w, vs = [v, w] ∧ RD G t H d v ∧ RD G t H e w := by
  cases r with
  | cons a b =>
    obtain ⟨w, rfl, q⟩ := b.one
    exact ⟨_, _, rfl, a, q⟩
/-- items of something that is read: lists, tuples, references to lists -/
def itemsO (d : D) (m : Sto) : Option (List D) := match d with
  | .lst xs => some xs
  | .tup xs => some xs
  | .ref l => match m[l]? with
    | some (.lst xs) => some xs
    | _ => none
  | _ => none
theorem items_at {t : List Addr} {H : Hp} {m : Sto} {d : D} {v : V} {xs : List D} (ss : SS G t H m) (r : RD G t H d v) (e : itemsO d m = some xs) : ∃ p vs, v = .ref p ∧ (SqL G.K H p vs ∨ SqT G.K H p vs) ∧ RDs G t H xs vs := by
  unfold itemsO at e
  split at e
  · cases e; cases r with
    | lst s q => exact ⟨_, _, rfl, .inl s.l, q⟩
  · cases e; cases r with
    | tup s q => exact ⟨_, _, rfl, .inr s, q⟩
  · split at e
    · rename_i hl; cases e
      cases r with
      | ref ha =>
        obtain ⟨vs, hv, q⟩ := ss.lst hl ha
        exact ⟨_, _, rfl, .inl (.inl (.inl hv)), q⟩
    · cases e
  · cases e
def lenO : ON := fun ds m => match ds with
  | [.str x] => if x.length ≤ lim then some (.int x.length, m) else none
  | [d] => (itemsO d m).map fun xs => (.int xs.length, m)
  | _ => none
theorem call_len_di (hK : G.K = X.K) : CallR X (.builtin "len") (rON G lenO) := by
  intro pins s σ H xs us Q I r h
  obtain ⟨ds, m, t, ss, rd, k⟩ := h
  unfold lenO at k
  split at k
  · split at k
    · rename_i c
      obtain ⟨v, rfl, q⟩ := rd.one
      cases q
      exact call_len_str pins s σ H _ us Q I r ⟨_, rfl, lim_le c, KO.now k ss (.int _)⟩
    · exact k.elim
  · obtain ⟨v, rfl, q⟩ := rd.one
    rename_i d _
    cases e : itemsO d m with
    | none => rw [e] at k; exact k.elim
    | some ys =>
      rw [e] at k
      obtain ⟨p, vs, rfl, hv, q'⟩ := items_at ss q e
      rw [hK] at hv
      exact call_len_seq pins s σ H _ us Q I r ⟨_, _, rfl, hv, by rw [← q'.length]; exact KO.now k ss (.int _)⟩
  · exact k.elim
def absO : ON := fun ds m => match ds with
  | [.int i] => some (.int (if i < 0 then -i else i), m)
  | _ => none
theorem call_abs_di : CallR X (.builtin "abs") (rON G absO) := by
  intro pins s σ H xs us Q I r h
  obtain ⟨ds, m, t, ss, rd, k⟩ := h
  unfold absO at k
  split at k
  · obtain ⟨v, rfl, q⟩ := rd.one
    cases q
    exact call_abs pins s σ H _ us Q I r ⟨_, rfl, KO.now k ss (.int _)⟩
  · exact k.elim
def maxO : ON := fun ds m => match ds with
  | [.int i, .int j] => some (.int (if j > i then j else i), m)
  | _ => none
def minO : ON := fun ds m => match ds with
  | [.int i, .int j] => some (.int (if j < i then j else i), m)
  | _ => none
theorem call_max_di (hc : X.calm = true) : CallR X (.builtin "max") (rON G maxO) := by
  intro pins s σ H xs us Q I r h
  obtain ⟨ds, m, t, ss, rd, k⟩ := h
  unfold maxO at k
  split at k
  · obtain ⟨v, w, rfl, q, q'⟩ := rd.two
    cases q; cases q'
    exact call_max2 hc pins s σ H _ us Q I r ⟨_, _, rfl, KO.now k ss (.int _)⟩
  · exact k.elim
theorem call_min_di (hc : X.calm = true) : CallR X (.builtin "min") (rON G minO) := by
  intro pins s σ H xs us Q I r h
  obtain ⟨ds, m, t, ss, rd, k⟩ := h
  unfold minO at k
  split at k
  · obtain ⟨v, w, rfl, q, q'⟩ := rd.two
    cases q; cases q'
    exact call_min2 hc pins s σ H _ us Q I r ⟨_, _, rfl, KO.now k ss (.int _)⟩
  · exact k.elim
def intO : ON := fun ds m => match ds with
  | [.int i] => some (.int i, m)
  | [.bl b] => some (.int (if b then 1 else 0), m)
  | [.str a] => if a.length ≤ 640 then (PySem.intText? a).map fun n => (.int n, m) else none
  | _ => none
theorem call_int_di : CallR X (.type "int") (rON G intO) := by
  intro pins s σ H xs us Q I r h
  obtain ⟨ds, m, t, ss, rd, k⟩ := h
  unfold intO at k
  split at k
  · obtain ⟨v, rfl, q⟩ := rd.one
    cases q
    exact call_int1 pins s σ H _ us Q I r (.inl ⟨_, rfl, KO.now k ss (.int _)⟩)
  · obtain ⟨v, rfl, q⟩ := rd.one
    cases q
    exact call_int1 pins s σ H _ us Q I r (.inr ⟨_, rfl, KO.now k ss (.int _)⟩)
  · split at k
    · rename_i a c
      obtain ⟨v, rfl, q⟩ := rd.one
      cases q
      cases e : PySem.intText? a with
      | none => rw [e] at k; exact k.elim
      | some n =>
        rw [e] at k
        exact call_int_str pins s σ H _ us Q I r ⟨a, n, rfl, e, c, KO.now k ss (.int _)⟩
    · exact k.elim
  · exact k.elim
def strO : ON := fun ds m => match ds with
  | [.int i] => if i.natAbs.log2 < 1920 then some (.str (toString i), m) else none
  | _ => none
theorem call_str_di : CallR X (.type "str") (rON G strO) := by
  intro pins s σ H xs us Q I r h
  obtain ⟨ds, m, t, ss, rd, k⟩ := h
  unfold strO at k
  split at k
  · split at k
    · rename_i c
      obtain ⟨v, rfl, q⟩ := rd.one
      cases q
      exact call_str_int pins s σ H _ us Q I r ⟨_, rfl, c, KO.now k ss (.str _)⟩
    · exact k.elim
  · exact k.elim
def tupleO : ON := fun ds m => match ds with
  | [d] => (itemsO d m).map fun xs => (.tup xs, m)
  | _ => none
theorem call_tuple_di (hK : G.K = X.K) : CallR X (.type "tuple") (rON G tupleO) := by
  intro pins s σ H xs us Q I r h
  obtain ⟨ds, m, t, ss, rd, k⟩ := h
  unfold tupleO at k
  split at k
  · obtain ⟨v, rfl, q⟩ := rd.one
    rename_i d
    cases e : itemsO d m with
    | none => rw [e] at k; exact k.elim
    | some ys =>
      rw [e] at k
      obtain ⟨p, vs, rfl, hv, q'⟩ := items_at ss q e
      rcases hv with hv | hv
      · exact call_tuple_of pins s σ H _ us Q I r ⟨_, _, rfl, .inl ⟨by rw [← hK]; exact hv, fun l hl => KO.tup k ss q' hl⟩⟩
      · exact call_tuple_of pins s σ H _ us Q I r ⟨_, _, rfl, .inr ⟨by rw [← hK]; exact hv, KO.now k ss (.tup hv q')⟩⟩
  · exact k.elim
/-- list(..): a frozen copy -/
def listO : ON := fun ds m => match ds with
  | [d] => (itemsO d m).map fun xs => (.lst xs, m)
  | _ => none
theorem call_list_di (hK : G.K = X.K) : CallR X (.type "list") (rON G listO) := by
  intro pins s σ H xs us Q I r h
  obtain ⟨ds, m, t, ss, rd, k⟩ := h
  unfold listO at k
  split at k
  · obtain ⟨v, rfl, q⟩ := rd.one
    rename_i d
    cases e : itemsO d m with
    | none => rw [e] at k; exact k.elim
    | some ys =>
      rw [e] at k
      obtain ⟨p, vs, rfl, hv, q'⟩ := items_at ss q e
      rw [hK] at hv
      exact call_frz call_list_of pins s σ H _ us Q I r ⟨_, _, rfl, hv, fun l hl => KO.lst k ss q' hl⟩
  · exact k.elim
/-! any, all, sum -/
def blsOf : List D → Option (List Bool)
  | [] => some []
  | .bl b :: r => (blsOf r).map fun bs => b :: bs
  | _ => none
def intsOf : List D → Option (List Int)
  | [] => some []
  | .int b :: r => (intsOf r).map fun bs => b :: bs
  | _ => none
theorem bls_vals {t : List Addr} {H : Hp} : ∀ {ds : List D} {vs : List V} {bs : List Bool}, RDs G t H ds vs → blsOf ds = some bs → vs = bs.map V.bl
  | [], _, _, .nil, e => by simp only [blsOf, Option.some.injEq] at e; subst e; rfl
  | .bl b :: r, _, bs, .cons a q, e => by
    simp only [blsOf, Option.map_eq_some_iff] at e
    obtain ⟨cs, e1, rfl⟩ := e
    cases a
    rw [bls_vals q e1]; rfl
  | .non :: _, _, _, _, e => by simp [blsOf] at e
  | .int _ :: _, _, _, _, e => by simp [blsOf] at e
  | .str _ :: _, _, _, _, e => by simp [blsOf] at e
  | .tup _ :: _, _, _, _, e => by simp [blsOf] at e
  | .lst _ :: _, _, _, _, e => by simp [blsOf] at e
  | .dct _ :: _, _, _, _, e => by simp [blsOf] at e
  | .ref _ :: _, _, _, _, e => by simp [blsOf] at e
  | .fn _ :: _, _, _, _, e => by simp [blsOf] at e
  | .cls _ :: _, _, _, _, e => by simp [blsOf] at e
  | .ty _ :: _, _, _, _, e => by simp [blsOf] at e
  | .exc _ _ :: _, _, _, _, e => by simp [blsOf] at e
theorem ints_vals {t : List Addr} {H : Hp} : ∀ {ds : List D} {vs : List V} {bs : List Int}, RDs G t H ds vs → intsOf ds = some bs → vs = bs.map V.int
  | [], _, _, .nil, e => by simp only [intsOf, Option.some.injEq] at e; subst e; rfl
  | .int b :: r, _, bs, .cons a q, e => by
    simp only [intsOf, Option.map_eq_some_iff] at e
    obtain ⟨cs, e1, rfl⟩ := e
    cases a
    rw [ints_vals q e1]; rfl
  | .non :: _, _, _, _, e => by simp [intsOf] at e
  | .bl _ :: _, _, _, _, e => by simp [intsOf] at e
  | .str _ :: _, _, _, _, e => by simp [intsOf] at e
  | .tup _ :: _, _, _, _, e => by simp [intsOf] at e
  | .lst _ :: _, _, _, _, e => by simp [intsOf] at e
  | .dct _ :: _, _, _, _, e => by simp [intsOf] at e
  | .ref _ :: _, _, _, _, e => by simp [intsOf] at e
  | .fn _ :: _, _, _, _, e => by simp [intsOf] at e
  | .cls _ :: _, _, _, _, e => by simp [intsOf] at e
  | .ty _ :: _, _, _, _, e => by simp [intsOf] at e
  | .exc _ _ :: _, _, _, _, e => by simp [intsOf] at e
def anyO : ON := fun ds m => match ds with
  | [.lst xs] => (blsOf xs).map fun bs => (.bl (bs.any id), m)
  | _ => none
def allO : ON := fun ds m => match ds with
  | [.lst xs] => (blsOf xs).map fun bs => (.bl (bs.all id), m)
  | _ => none
def sumO : ON := fun ds m => match ds with
  | [.lst xs] => (intsOf xs).map fun bs => (.int bs.sum, m)
  | [.tup xs] => (intsOf xs).map fun bs => (.int bs.sum, m)
  | _ => none
theorem call_any_di (hc : X.calm = true) : CallR X (.builtin "any") (rON G anyO) := by
  intro pins s σ H xs us Q I r h
  obtain ⟨ds, m, t, ss, rd, k⟩ := h
  unfold anyO at k
  split at k
  · obtain ⟨v, rfl, q⟩ := rd.one
    rename_i ys
    cases e : blsOf ys with
    | none => rw [e] at k; exact k.elim
    | some bs =>
      rw [e] at k
      cases q with
      | lst s1 q1 =>
        have z := bls_vals q1 e
        subst z
        exact cr_any hc pins s σ H _ us Q I r ⟨_, _, rfl, s1.l, KO.now k ss (.bl _)⟩
  · exact k.elim
theorem call_all_di (hc : X.calm = true) : CallR X (.builtin "all") (rON G allO) := by
  intro pins s σ H xs us Q I r h
  obtain ⟨ds, m, t, ss, rd, k⟩ := h
  unfold allO at k
  split at k
  · obtain ⟨v, rfl, q⟩ := rd.one
    rename_i ys
    cases e : blsOf ys with
    | none => rw [e] at k; exact k.elim
    | some bs =>
      rw [e] at k
      cases q with
      | lst s1 q1 =>
        have z := bls_vals q1 e
        subst z
        exact cr_all hc pins s σ H _ us Q I r ⟨_, _, rfl, s1.l, KO.now k ss (.bl _)⟩
  · exact k.elim
theorem call_sum_di (hK : G.K = X.K) (hc : X.calm = true) : CallR X (.builtin "sum") (rON G sumO) := by
  intro pins s σ H xs us Q I r h
  obtain ⟨ds, m, t, ss, rd, k⟩ := h
  unfold sumO at k
  split at k
  · obtain ⟨v, rfl, q⟩ := rd.one
    rename_i ys
    cases e : intsOf ys with
    | none => rw [e] at k; exact k.elim
    | some bs =>
      rw [e] at k
      cases q with
      | lst s1 q1 =>
        have z := ints_vals q1 e
        subst z
        exact cr_sum hc pins s σ H _ us Q I r ⟨_, _, rfl, s1.l, KO.now k ss (.int _)⟩
  · obtain ⟨v, rfl, q⟩ := rd.one
    rename_i ys
    cases e : intsOf ys with
    | none => rw [e] at k; exact k.elim
    | some bs =>
      rw [e] at k
      cases q with
      | tup s1 q1 =>
        have z := ints_vals q1 e
        subst z
        rw [hK] at s1
        obtain ⟨its, rv, ht, _⟩ := I.tuple s1
        rw [Vals.ref1 r]
        have hi := rv.ints
        obtain ⟨ys, hx⟩ := hi.allInts.items
        have hn : PySem.numsOf its.toArray.toList = bs := by rw [show its.toArray.toList = its from rfl, hi.numsOf]
        rw [hx] at ht hn
        rw [PySem.nums_intItems] at hn
        refine PySem.W.ktm_sumG (I.ok.hd hc) ht fun g tk tt kp => ?_
        have fin : Q (.int bs.sum) H := KO.now k ss (.int _)
        rw [PySem.preSum_eq, List.take_of_length_le (by simp), hn]
        exact ⟨.int bs.sum, H, I.kept kp, ⟨_, rfl⟩, fin⟩
  · exact k.elim
end
end DI

set_option Elab.async false
set_option linter.all false
set_option maxRecDepth 100000
set_option maxHeartbeats 4000000
/-! DIE: repr, isinstance on deep values. -/
namespace DI
open PySem PySem.Spec L2
open PyProof.Rows hiding St

section
variable {X : Cx} {G : Gx}
/-- what repr writes; dicts: the empty one alone -/
def reprO : ON := fun ds m => match ds with
  | [.dct []] => some (.str (PyData.shown (.dict [])), m)
  | [d] => match toPy d with
    | some y => if SeqAt.shaped y = true ∧ y.showable = true ∧ y.shown.length ≤ lim then some (.str y.shown, m) else none
    | none => none
  | _ => none
theorem shown_empty : (PyData.shown (.dict [])).length ≤ sizeLine := by
  have : (PyData.shown (.dict [])).length ≤ 100 := by decide +kernel
  exact Nat.le_trans this (by decide)
theorem repr_ref {pins : List (Addr × Obj)} {s : Shared} {σ : St} {H : Hp} {Q : VK} {a : Addr} {y : PyData} {as : List Addr} (I : Inv X pins σ H s) (hg : X.A.guards = some []) (hu : X.A.units + 100 < cLine) (rd : Reads s.heap (.ref a) y as) (sh : y.showable = true) (hd : y.hasDict = true → sysModules ∉ as)
    (dp : y.depth ≤ 64) (len : y.shown.length ≤ sizeLine) (q : Q (.str y.shown) H) : wpAny (model X.prog X.w) X.A (call (.builtin "repr") [.ref a]) (EP X pins σ Q) X.xe s :=
  PySem.repr_of_reads' (h₀ := s.heap) rd sh hd hg (by omega) (fun _ _ z => z) (fun h' u tk k => ⟨.str _, H, I.kept k, ⟨u, rfl⟩, q⟩) len
theorem call_repr_di (hK : G.K = X.K) (hg : X.A.guards = some []) (hu : X.A.units + 100 < cLine) : CallR X (.builtin "repr") (rON G reprO) := by
  intro pins s σ H xs us Q I r h
  obtain ⟨ds, m, t, ss, rd, k⟩ := h
  unfold reprO at k
  split at k
  · obtain ⟨v, rfl, q⟩ := rd.one
    cases q with
    | dct e q1 =>
      cases q1
      obtain ⟨u, rfl, ru⟩ := vals1 r
      cases ru
      obtain ⟨ob, e⟩ := e
      obtain ⟨_, _, ns, vs, kv, ob2, es, ep, e2, ex, hd, _, pr, _⟩ := I.hok _ _ e
      cases kv
      have hes : es.toList = [] := by
        cases hq : es.toList with
        | nil => rfl
        | cons x xs => rw [hq] at pr; cases pr
      refine repr_ref (y := .dict []) (as := _) I hg hu (Reads.dict (as := []) (bs := []) e2 ex.1 hd ?_ ?_) rfl (fun _ z => ?_) (by decide) shown_empty (KO.now k ss (.str _))
      · rw [hes]; exact .nil
      · rw [hes]; exact .nil
      · rw [List.append_nil, List.mem_singleton] at z
        rw [← z] at ns
        simp at ns
  · rename_i d _
    obtain ⟨v, rfl, q⟩ := rd.one
    cases e : toPy d with
    | none => rw [e] at k; exact k.elim
    | some y =>
      rw [e] at k
      simp only at k
      split at k
      · rename_i c
        obtain ⟨c1, c2, c3⟩ := c
        have nd := shaped_nodict c1
        have dp := RD.dp q e nd
        rw [hK] at dp
        have fin : Q (.str y.shown) H := KO.now k ss (.str _)
        obtain ⟨u, rfl, ru⟩ := vals1 r
        obtain ⟨as, rd2⟩ := Dp.reads I y v u dp ru
        cases rd2 with
        | none => exact PySem.P.repr_of_none ⟨.str _, H, I.tok _, ⟨_, rfl⟩, fin⟩
        | bool b => exact PySem.P.repr_of_bool ⟨.str _, H, I.tok _, ⟨_, rfl⟩, by simpa [PyData.shown] using fin⟩
        | int i tk => exact PySem.P.repr_of_int (by simpa [PyData.showable] using c2) ⟨.str _, H, I.tok _, ⟨_, rfl⟩, by simpa [PyData.shown] using fin⟩
        | str x tk => exact PySem.P.repr_of_str ⟨.str _, H, I.tok _, ⟨_, rfl⟩, by simpa [PyData.shown] using fin⟩ (by simpa [PyData.shown] using lim_le c3)
        | list h1 h2 h3 h4 => exact repr_ref I hg hu (.list h1 h2 h3 h4) c2 (fun z => by rw [nd] at z; cases z) (SeqAt.depth_of_shaped c1) (lim_le c3) fin
        | tuple h1 h2 h3 h4 => exact repr_ref I hg hu (.tuple h1 h2 h3 h4) c2 (fun z => by rw [nd] at z; cases z) (SeqAt.depth_of_shaped c1) (lim_le c3) fin
        | dict h1 h2 h3 h4 h5 => cases dp
      · exact k.elim
  · exact k.elim

/-! ### isinstance -/
/-- the built-in type of a value -/
def tyOf (d : D) (m : Sto) : Option String := match d with
  | .non => some "NoneType"
  | .bl _ => some "bool"
  | .int _ => some "int"
  | .str _ => some "str"
  | .tup _ => some "tuple"
  | .lst _ => some "list"
  | .dct _ => some "dict"
  | .ref l => match m[l]? with
    | some (.lst _) => some "list"
    | some (.dct _) => some "dict"
    | _ => none
  | _ => none
theorem tyOf_x (hK : G.K = X.K) {t : List Addr} {H : Hp} {m : Sto} {d : D} {v : V} {n : String} (ss : SS G t H m) (r : RD G t H d v) (e : tyOf d m = some n) : TyX X.K H v (.type n) := by
  unfold tyOf at e
  split at e
  · cases e; cases r; exact .base .non
  · cases e; cases r; exact .base (.bl _)
  · cases e; cases r; exact .base (.int _)
  · cases e; cases r; exact .base (.str _)
  · cases e
    cases r with
    | tup s1 q1 =>
      rw [hK] at s1
      rcases s1 with (h | ⟨o, h⟩) | ⟨o, its, n, h, c, _⟩
      · exact .base (.tup h)
      · exact .fTuple h
      · exact .kTuple h c
  · cases e
    cases r with
    | lst s1 q1 => obtain ⟨o, h⟩ := s1; exact .base (.frz h)
  · cases e
    cases r with
    | dct s1 q1 => obtain ⟨o, h⟩ := s1; exact .fDict h
  · split at e
    · rename_i hl; cases e
      cases r with
      | ref ha => obtain ⟨vs, hv, _⟩ := ss.lst hl ha; exact .base (.lst hv)
    · rename_i hl; cases e
      cases r with
      | ref ha =>
        obtain ⟨p, e, o⟩ := ss.ob _ _ hl
        rw [ha] at e; cases e
        obtain ⟨kvs, hv, _⟩ := o
        exact .base (.dK hv)
    · cases e
  · cases e
def isiO : ON := fun ds m => match ds with
  | [d, .ty n] => match tyOf d m with
    | some k => (kitB k n).map fun b => (.bl b, m)
    | none => none
  | _ => none
theorem call_isi_di (hK : G.K = X.K) : CallR X (.builtin "isinstance") (rON G isiO) := by
  intro pins s σ H xs us Q I r h
  obtain ⟨ds, m, t, ss, rd, k⟩ := h
  unfold isiO at k
  split at k
  · rename_i d n
    obtain ⟨v, w, rfl, q, q'⟩ := rd.two
    cases q'
    cases e : tyOf d m with
    | none => rw [e] at k; exact k.elim
    | some kk =>
      rw [e] at k
      simp only at k
      cases e2 : kitB kk n with
      | none => rw [e2] at k; exact k.elim
      | some b =>
        rw [e2] at k
        exact call_isi pins s σ H _ us Q I r ⟨_, _, _, _, b, rfl, .ty n, tyOf_x hK ss q e, kit_ty e2, KO.now k ss (.bl _)⟩
  · exact k.elim
end
end DI

set_option Elab.async false
set_option linter.all false
set_option maxRecDepth 100000
set_option maxHeartbeats 4000000
/-! DIF: actions for expressions and their rules. -/
namespace DI
open PySem PySem.Spec L2
open PyProof.Rows hiding St

/-! ### actions -/
def ofO {α : Type} (o : Option (α × Sto)) : R α := match o with
  | some (d, m) => .ok d m
  | none => .stuck
def mVar (i : Nat) : M D := fun r m => match r[i]? with
  | some (some d) => .ok d m
  | _ => .stuck
def mC (d : D) : M D := fun _ m => .ok d m
def mAp1 (f : O1) (a : M D) : M D := fun r m => (a r m).bind fun x m1 => ofO (f x m1)
def mAp2 (f : O2) (a b : M D) : M D := fun r m => (a r m).bind fun x m1 => (b r m1).bind fun y m2 => ofO (f x y m2)
def mNil : M (List D) := fun _ m => .ok [] m
def mCons (a : M D) (b : M (List D)) : M (List D) := fun r m => (a r m).bind fun x m1 => (b r m1).bind fun xs m2 => .ok (x :: xs) m2
def mApN (f : ON) (a : M (List D)) : M D := fun r m => (a r m).bind fun xs m1 => ofO (f xs m1)
def mCall (call : Nat → List D → Sto → R D) (k : Nat) (a : M (List D)) (dfl : List D) : M D := fun r m => (a r m).bind fun xs m1 => call k (xs ++ dfl) m1
def mTru (a : M D) : M Bool := fun r m => (a r m).bind fun x m1 => match truO x m1 with
  | some b => .ok b m1
  | none => .stuck
def mNotT (t : M Bool) : M Bool := fun r m => (t r m).bind fun b m1 => .ok (!b) m1
def mAndT (t u : M Bool) : M Bool := fun r m => (t r m).bind fun b m1 => if b = true then u r m1 else .ok false m1
def mOrT (t u : M Bool) : M Bool := fun r m => (t r m).bind fun b m1 => if b = true then .ok true m1 else u r m1
def mIf {α : Type} (t : M Bool) (a b : M α) : M α := fun r m => (t r m).bind fun c m1 => if c = true then a r m1 else b r m1
def mAndV (a b : M D) : M D := fun r m => (a r m).bind fun x m1 => match truO x m1 with
  | some true => b r m1
  | some false => .ok x m1
  | none => .stuck
def mOrV (a b : M D) : M D := fun r m => (a r m).bind fun x m1 => match truO x m1 with
  | some true => .ok x m1
  | some false => b r m1
  | none => .stuck
def mNotV (a : M D) : M D := fun r m => (a r m).bind fun x m1 => match truO x m1 with
  | some b => .ok (.bl (!b)) m1
  | none => .stuck
/-- a op1 b op2 c -/
def mChain (o1 o2 : CmpOp) (a b c : M D) : M D := fun r m => (a r m).bind fun x m1 => (b r m1).bind fun y m2 => match cmpB o1 x y with
  | some true => (c r m2).bind fun z m3 => ofO (cmpS o2 y z m3)
  | some false => .ok (.bl false) m2
  | none => .stuck
def mNoP : M (Option Int) := fun _ m => .ok none m
def mPart (a : M D) : M (Option Int) := fun r m => (a r m).bind fun x m1 => match x with
  | .int i => .ok (some i) m1
  | _ => .stuck
def mSl (a : M D) (lo hi : M (Option Int)) : M D := fun r m => (a r m).bind fun x m1 => (lo r m1).bind fun l m2 => (hi r m2).bind fun h m3 => ofO (slO x l h m3)
def tupO : ON := fun ds m => if ds.length ≤ lim then some (.tup ds, m) else none
def lstO : ON := fun ds m => if ds.length ≤ lim then some (.lst ds, m) else none
/-- a new mutable list -/
def newL : ON := fun ds m => if ds.length ≤ lim then some (.ref m.length, m ++ [.lst ds]) else none

/-! ### rules -/
section
variable {X : Cx} {G : Gx} {W : WX} {pos : Pos} {a b c : Expr} {ma mb mc : M D}
theorem KE.ofO_ {r : Option (D × Sto)} {s : St} {t : List Addr} {H : Hp} {Q : VK} (h : KE G W s (relD G) (ofO r) t H Q) : KO G r t H Q := by
  cases r with
  | none => exact h
  | some p => exact h
theorem di_var {i : Nat} {x : Str} (hN : X.N[i]? = some x) (hv : Vis X.env.scope x) (hd : (x == ("__debug__" : Str)) = false) (hcd : (x == ("__classdict__" : Str)) = false) : PE X (.Name x pos) (RdE G W (mVar i)) := by
  refine PE.imp (pe_var hN hv hd hcd) fun s H Q h => ?_
  obtain ⟨r, μ, t, se, ss, k⟩ := h
  unfold mVar at k
  split at k
  · rename_i d e
    obtain ⟨v, hv, rd⟩ := se.at_ i d e
    exact ⟨v, hv, k v H t (Stp.refl t H) ss rd⟩
  · exact k.elim
theorem di_c {e : Expr} {d : D} {v : V} (h : PE X e (tC v)) (hd : ∀ t H, RD G t H d v) : PE X e (RdE G W (mC d)) := by
  refine PE.imp h fun s H Q h => ?_
  obtain ⟨r, μ, t, se, ss, k⟩ := h
  exact k v H t (Stp.refl t H) ss (hd t H)
/-- THE STEP: an action that begins with another one -/
theorem rd_step {α β γ δ : Type} {rel : List Addr → Hp → α → β → Prop} {rel2 : List Addr → Hp → γ → δ → Prop} {s : St} {H : Hp} {r : Env} {μ : Sto} {t : List Addr} {m1 : M α} {f : α → Sto → R γ} {Q : δ → Hp → Prop} {Q' : β → Hp → Prop}
    (se : SE G t H r s) (ss : SS G t H μ) (k : KE G W s rel2 ((m1 r μ).bind f) t H Q)
    (h : ∀ a μ' v H1 t1, Stp t H t1 H1 → SE G t1 H1 r s → SS G t1 H1 μ' → rel t1 H1 a v → KE G W s rel2 (f a μ') t1 H1 Q → Q' v H1) : Rd G W rel m1 s H Q' := by
  refine ⟨r, μ, t, se, ss, ?_⟩
  cases e : m1 r μ with
  | ok a μ' =>
    simp only [e, R.bind] at k
    exact fun v H' t' ex s' rl => h a μ' v H' t' ex (se.mono ex.le ex.ex) s' rl (k.later ex)
  | exc kk fs μ' =>
    simp only [e, R.bind] at k
    exact k
  | stuck =>
    simp only [e, R.bind] at k
    exact k
theorem rd_last {α β : Type} {rel : List Addr → Hp → α → β → Prop} {s : St} {H : Hp} {r : Env} {μ : Sto} {t : List Addr} {m1 : M α} {Q : β → Hp → Prop}
    (se : SE G t H r s) (ss : SS G t H μ) (k : KE G W s rel (m1 r μ) t H Q) : Rd G W rel m1 s H Q := ⟨r, μ, t, se, ss, k⟩
theorem KE.ok_ {α β : Type} {rel : List Addr → Hp → α → β → Prop} {s : St} {H : Hp} {t : List Addr} {x : α} {m : Sto} {v : β} {Q : β → Hp → Prop} (k : KE G W s rel (.ok x m) t H Q) (ss : SS G t H m) (r : rel t H x v) : Q v H :=
  k v H t (Stp.refl t H) ss r
theorem di_ap2 {e : Expr} {f : O2} (h : PE X e (tOp (rO2 G f) (RdE G W ma) (RdE G W mb))) : PE X e (RdE G W (mAp2 f ma mb)) := by
  refine PE.imp h fun s H Q ⟨r, μ, t, se, ss, k⟩ => ?_
  exact rd_step se ss k fun d1 μ1 x H1 t1 _ se1 ss1 r1 k1 => rd_step se1 ss1 k1 fun d2 μ2 y H2 t2 ex2 _ ss2 r2 k2 => ⟨d1, d2, μ2, t2, ss2, RD.mono ex2.le ex2.ex r1, r2, KE.ofO_ k2⟩
theorem di_ap1 {e : Expr} {f : O1} (h : PE X e (tUn (rO1 G f) (RdE G W ma))) : PE X e (RdE G W (mAp1 f ma)) := by
  refine PE.imp h fun s H Q ⟨r, μ, t, se, ss, k⟩ => ?_
  exact rd_step se ss k fun d1 μ1 x H1 t1 _ _ ss1 r1 k1 => ⟨d1, μ1, t1, ss1, r1, KE.ofO_ k1⟩
theorem di_bin (hK : G.K = X.K) {op : Operator} (ha : PE X a (RdE G W ma)) (hb : PE X b (RdE G W mb)) : PE X (.BinOp a op b pos) (RdE G W (mAp2 (binS op) ma mb)) := di_ap2 (pe_op (op_bin hK op) ha hb)
theorem di_un {op : UnaryOp} (ha : PE X a (RdE G W ma)) : PE X (.UnaryOp op a pos) (RdE G W (mAp1 (unS op) ma)) := di_ap1 (pe_un (un_di op) ha)
theorem di_ix (hK : G.K = X.K) (ha : PE X a (RdE G W ma)) (hb : PE X b (RdE G W mb)) (hs : PlainIx b) : PE X (.Subscript a b pos) (RdE G W (mAp2 ixO ma mb)) := di_ap2 (pe_ix (ix_di hK) ha hb hs)
theorem marks_ok {op : CmpOp} (hb : ∀ es k p, b ≠ .Set es k p) : behindInMarks op b = false := by
  cases b <;> first | rfl | (exact absurd rfl (hb _ _ _))
theorem di_cmp (hK : G.K = X.K) (hu : X.A.units + 64 < cLine) {op : CmpOp} (ha : PE X a (RdE G W ma)) (hb : PE X b (RdE G W mb)) (hm : behindInMarks op b = false) : PE X (.Compare a [op] [b] pos) (RdE G W (mAp2 (cmpS op) ma mb)) := di_ap2 (pe_cmpR (op_cmp hK hu op) ha hb hm)
theorem cmpS_bl {op : CmpOp} {x y : D} {m m1 : Sto} {d : D} (h : cmpS op x y m = some (d, m1)) : ∃ b, cmpB op x y = some b ∧ d = .bl b ∧ m1 = m := by
  unfold cmpS at h
  obtain ⟨b, e, q⟩ := Option.map_eq_some_iff.mp h
  cases q
  exact ⟨b, e, rfl, rfl⟩
theorem KE.bind_ofO {α γ δ : Type} {rel2 : List Addr → Hp → γ → δ → Prop} {s : St} {t : List Addr} {H : Hp} {o : Option (α × Sto)} {f : α → Sto → R γ} {Q : δ → Hp → Prop} (k : KE G W s rel2 ((ofO o).bind f) t H Q) : ∃ d m, o = some (d, m) ∧ KE G W s rel2 (f d m) t H Q := by
  cases o with
  | none => exact k.elim
  | some p => exact ⟨p.1, p.2, rfl, k⟩
/-- what a comparison tells, as a test -/
def mCmpT (op : CmpOp) (a b : M D) : M Bool := fun r m => (a r m).bind fun x m1 => (b r m1).bind fun y m2 => match cmpB op x y with
  | some k => .ok k m2
  | none => .stuck
theorem di_cmpT (hK : G.K = X.K) (hu : X.A.units + 64 < cLine) {op : CmpOp} (ha : PE X a (RdE G W ma)) (hb : PE X b (RdE G W mb)) (hm : behindInMarks op b = false) : PT X (.Compare a [op] [b] pos) (RdT G W (mCmpT op ma mb)) := by
  refine PT.imp (pt_cmpR (op_cmp hK hu op) ha hb hm) fun s H Q ⟨r, μ, t, se, ss, k⟩ => ?_
  refine rd_step se ss k fun d1 μ1 x H1 t1 _ se1 ss1 r1 k1 => rd_step se1 ss1 k1 fun d2 μ2 y H2 t2 ex2 _ ss2 r2 k2 => ⟨d1, d2, μ2, t2, ss2, RD.mono ex2.le ex2.ex r1, r2, ?_⟩
  unfold cmpS
  cases e : cmpB op d1 d2 with
  | none => rw [e] at k2; exact k2.elim
  | some b =>
    rw [e] at k2
    intro v H' t' ex ss' rd
    cases rd
    exact ⟨b, rfl, k2 b H' t' ex ss' rfl⟩
theorem di_tru (hK : G.K = X.K) (ha : PE X a (RdE G W ma)) (he : ∀ whole, isTrue a X.env whole = (do let v ← whole; standAt a.pos; holding [v] (truthy v))) : PT X a (RdT G W (mTru ma)) := by
  refine PT.imp (pt_truth ha he) fun s H Q ⟨r, μ, t, se, ss, k⟩ => ?_
  refine rd_step se ss k fun d1 μ1 x H1 t1 _ se1 ss1 r1 k1 => ?_
  cases e : truO d1 μ1 with
  | none => rw [e] at k1; exact k1.elim
  | some b =>
    rw [e] at k1
    exact ⟨b, truV_di hK ss1 r1 e, KE.ok_ k1 ss1 rfl⟩
theorem di_notT {t : M Bool} (h : PT X a (RdT G W t)) : PT X (.UnaryOp .Not a pos) (RdT G W (mNotT t)) := by
  refine PT.imp (pt_not h) fun s H Q ⟨r, μ, t, se, ss, k⟩ => ?_
  exact rd_step se ss k fun b μ1 x H1 t1 _ se1 ss1 r1 k1 => by cases r1; exact KE.ok_ k1 ss1 rfl
theorem di_and1 {t : M Bool} (h : PT X a (RdT G W t)) : PW X (.BoolOp .And [a] pos) (RdT G W t) := pw_and1 h
theorem di_or1 {t : M Bool} (h : PT X a (RdT G W t)) : PW X (.BoolOp .Or [a] pos) (RdT G W t) := pw_or1 h
theorem di_andT {t u : M Bool} {rest : List Expr} (h : PT X a (RdT G W t)) (h2 : PW X (.BoolOp .And (b :: rest) pos) (RdT G W u)) : PW X (.BoolOp .And (a :: b :: rest) pos) (RdT G W (mAndT t u)) := by
  refine PW.imp (pw_and h h2) fun s H Q ⟨r, μ, t, se, ss, k⟩ => ?_
  refine rd_step se ss k fun b μ1 x H1 t1 _ se1 ss1 r1 k1 => ?_
  cases r1
  cases b with
  | true => exact rd_last se1 ss1 k1
  | false => exact KE.ok_ k1 ss1 rfl
theorem di_orT {t u : M Bool} {rest : List Expr} (h : PT X a (RdT G W t)) (h2 : PW X (.BoolOp .Or (b :: rest) pos) (RdT G W u)) : PW X (.BoolOp .Or (a :: b :: rest) pos) (RdT G W (mOrT t u)) := by
  refine PW.imp (pw_or h h2) fun s H Q ⟨r, μ, t, se, ss, k⟩ => ?_
  refine rd_step se ss k fun b μ1 x H1 t1 _ se1 ss1 r1 k1 => ?_
  cases r1
  cases b with
  | true => exact KE.ok_ k1 ss1 rfl
  | false => exact rd_last se1 ss1 k1
theorem di_one {op : BoolOp} (h : PE X a (RdE G W ma)) : PE X (.BoolOp op [a] pos) (RdE G W ma) := pe_one h
theorem di_andV (hK : G.K = X.K) {rest : List Expr} (h : PE X a (RdE G W ma)) (h2 : PE X (.BoolOp .And (b :: rest) pos) (RdE G W mb)) : PE X (.BoolOp .And (a :: b :: rest) pos) (RdE G W (mAndV ma mb)) := by
  refine PE.imp (pe_andT h h2) fun s H Q ⟨r, μ, t, se, ss, k⟩ => ?_
  refine rd_step se ss k fun d μ1 x H1 t1 _ se1 ss1 r1 k1 => ?_
  cases e : truO d μ1 with
  | none => rw [e] at k1; exact k1.elim
  | some c =>
    rw [e] at k1
    refine ⟨c, truV_di hK ss1 r1 e, ?_⟩
    cases c with
    | true => exact rd_last se1 ss1 k1
    | false => exact KE.ok_ k1 ss1 r1
theorem di_orV (hK : G.K = X.K) {rest : List Expr} (h : PE X a (RdE G W ma)) (h2 : PE X (.BoolOp .Or (b :: rest) pos) (RdE G W mb)) : PE X (.BoolOp .Or (a :: b :: rest) pos) (RdE G W (mOrV ma mb)) := by
  refine PE.imp (pe_orT h h2) fun s H Q ⟨r, μ, t, se, ss, k⟩ => ?_
  refine rd_step se ss k fun d μ1 x H1 t1 _ se1 ss1 r1 k1 => ?_
  cases e : truO d μ1 with
  | none => rw [e] at k1; exact k1.elim
  | some c =>
    rw [e] at k1
    refine ⟨c, truV_di hK ss1 r1 e, ?_⟩
    cases c with
    | true => exact KE.ok_ k1 ss1 r1
    | false => exact rd_last se1 ss1 k1
theorem di_notV (hK : G.K = X.K) (h : PE X a (RdE G W ma)) : PE X (.UnaryOp .Not a pos) (RdE G W (mNotV ma)) := by
  refine PE.imp (pe_notT h) fun s H Q ⟨r, μ, t, se, ss, k⟩ => ?_
  refine rd_step se ss k fun d μ1 x H1 t1 _ se1 ss1 r1 k1 => ?_
  cases e : truO d μ1 with
  | none => rw [e] at k1; exact k1.elim
  | some c => rw [e] at k1; exact ⟨c, truV_di hK ss1 r1 e, KE.ok_ k1 ss1 (.bl _)⟩
theorem di_if {tt : M Bool} (h : PT X c (RdT G W tt)) (ha : PE X a (RdE G W ma)) (hb : PE X b (RdE G W mb)) : PE X (.IfExp c a b pos) (RdE G W (mIf tt ma mb)) := by
  refine PE.imp (pe_ifExp h ha hb) fun s H Q ⟨r, μ, t, se, ss, k⟩ => ?_
  refine rd_step se ss k fun d μ1 x H1 t1 _ se1 ss1 r1 k1 => ?_
  cases r1
  cases d with
  | true => exact rd_last se1 ss1 k1
  | false => exact rd_last se1 ss1 k1
theorem di_chain (hK : G.K = X.K) (hu : X.A.units + 64 < cLine) {o1 o2 : CmpOp} (ha : PE X a (RdE G W ma)) (hb : PE X b (RdE G W mb)) (hc : PE X c (RdE G W mc)) (hm : lastMarks [o1, o2] [b, c] = false) : PE X (.Compare a [o1, o2] [b, c] pos) (RdE G W (mChain o1 o2 ma mb mc)) := by
  refine PE.imp (pe_chain (op_cmp hK hu o1) (op_cmp hK hu o2) ha hb hc hm) fun s H Q ⟨r, μ, t, se, ss, k⟩ => ?_
  refine rd_step se ss k fun d1 μ1 x H1 t1 _ se1 ss1 r1 k1 => rd_step se1 ss1 k1 fun d2 μ2 y H2 t2 ex2 se2 ss2 r2 k2 => ⟨d1, d2, μ2, t2, ss2, RD.mono ex2.le ex2.ex r1, r2, ?_⟩
  unfold cmpS
  cases e : cmpB o1 d1 d2 with
  | none => rw [e] at k2; exact k2.elim
  | some bb =>
    rw [e] at k2
    intro v H3 t3 ex3 ss3 rd3
    cases rd3
    refine ⟨bb, rfl, ?_⟩
    cases bb with
    | true =>
      exact rd_step (se2.mono ex3.le ex3.ex) ss3 (k2.later ex3) fun d3 μ3 z H4 t4 ex4 se4 ss4 r4 k4 => ⟨d2, d3, μ3, t4, ss4, RD.mono (ex3.trans ex4).le (ex3.trans ex4).ex r2, r4, KE.ofO_ k4⟩
    | false => exact KE.ok_ (k2.later ex3) ss3 (.bl _)
/-! parts of slices -/
theorem di_nop : PO X none (Rd G W (fun _ _ (o p : Option Int) => p = o) mNoP) := ⟨fun pins s σ H Q I h => po_none.run pins s σ H Q I (by
  obtain ⟨r, μ, t, se, ss, k⟩ := h
  exact KE.ok_ k ss rfl)⟩
theorem di_part (ha : PE X a (RdE G W ma)) : PO X (some a) (Rd G W (fun _ _ (o p : Option Int) => p = o) (mPart ma)) := ⟨fun pins s σ H Q I h => (po_some ha).run pins s σ H Q I (by
  obtain ⟨r, μ, t, se, ss, k⟩ := h
  refine rd_step se ss k fun d μ1 x H1 t1 _ se1 ss1 r1 k1 => ?_
  cases d with
  | int i => cases r1; exact ⟨i, rfl, KE.ok_ k1 ss1 rfl⟩
  | _ => exact k1.elim)⟩
theorem di_sl (hK : G.K = X.K) {p2 : Pos} {lo hi : Option Expr} {ml mh : M (Option Int)} (ha : PE X a (RdE G W ma)) (hl : PO X lo (Rd G W (fun _ _ (o p : Option Int) => p = o) ml)) (hh : PO X hi (Rd G W (fun _ _ (o p : Option Int) => p = o) mh)) :
    PE X (.Subscript a (.Slice lo hi none p2) pos) (RdE G W (mSl ma ml mh)) := by
  refine PE.imp (pe_slice (sl_di hK) ha hl hh) fun s H Q ⟨r, μ, t, se, ss, k⟩ => ?_
  refine rd_step se ss k fun d μ1 x H1 t1 _ se1 ss1 r1 k1 => rd_step se1 ss1 k1 fun l μ2 l' H2 t2 ex2 se2 ss2 r2 k2 => rd_step se2 ss2 k2 fun u μ3 u' H3 t3 ex3 se3 ss3 r3 k3 => ?_
  cases r2; cases r3
  exact ⟨d, μ3, t3, ss3, RD.mono (ex2.trans ex3).le (ex2.trans ex3).ex r1, KE.ofO_ k3⟩
/-! lists of arguments, displays, calls of built-ins -/
theorem di_nil : PA X [] (RdA G W mNil) := PA.imp pa_nil fun s H Q ⟨r, μ, t, se, ss, k⟩ => KE.ok_ k ss .nil
theorem di_cons {es : List Expr} {ms : M (List D)} (ha : PE X a (RdE G W ma)) (hr : PA X es (RdA G W ms)) (hs : starEach (a :: es) X.env = (false, eval a X.env) :: starEach es X.env) : PA X (a :: es) (RdA G W (mCons ma ms)) := by
  refine PA.imp (pa_cons ha hr hs) fun s H Q ⟨r, μ, t, se, ss, k⟩ => ?_
  exact rd_step se ss k fun d μ1 x H1 t1 _ se1 ss1 r1 k1 => rd_step se1 ss1 k1 fun ds μ2 xs H2 t2 ex2 _ ss2 r2 k2 => KE.ok_ k2 ss2 (.cons (RD.mono ex2.le ex2.ex r1) r2)
theorem di_tup {es : List Expr} {x1} {ms : M (List D)} (h : PA X es (RdA G W ms)) : PE X (.Tuple es x1 pos) (RdE G W (mApN tupO ms)) := by
  refine PE.imp (pe_tup h) fun s H Q ⟨r, μ, t, se, ss, k⟩ => ?_
  refine rd_step se ss k fun ds μ1 xs H1 t1 _ se1 ss1 r1 k1 => ?_
  have k2 := KE.ofO_ k1
  unfold tupO at k2
  split at k2
  · rename_i c
    exact ⟨by rw [← RDs.length r1]; exact lim_le c, fun p hp => KO.tup k2 ss1 r1 hp⟩
  · exact k2.elim
theorem di_lst {es : List Expr} {ms : M (List D)} (h : PA X es (RdA G W ms)) : PE X (.List es pos) (RdE G W (mApN lstO ms)) := by
  refine PE.imp (pe_frz (pe_lst h)) fun s H Q ⟨r, μ, t, se, ss, k⟩ => ?_
  refine rd_step se ss k fun ds μ1 xs H1 t1 _ se1 ss1 r1 k1 => ?_
  have k2 := KE.ofO_ k1
  unfold lstO at k2
  split at k2
  · rename_i c
    exact ⟨by rw [← RDs.length r1]; exact lim_le c, fun p hp => KO.lst k2 ss1 r1 hp⟩
  · exact k2.elim
theorem SS.grow {t : List Addr} {H : Hp} {m : Sto} {p : Addr} {ds : List D} {vs : List V} (ss : SS G t H m) (r : RDs G t H ds vs) (hp : H p = none) : SS G (t ++ [p]) (upd H p (.lst vs)) (m ++ [.lst ds]) := by
  have ex : Ext H (upd H p (.lst vs)) := Ext.new hp
  have le : Le t (t ++ [p]) := Le.app t [p]
  have known : ∀ (l : Nat) (o : O) (a : Addr), m[l]? = some o → o ≠ .dead → t[l]? = some a → a ≠ p := fun l o a h1 h2 h3 z => by
    obtain ⟨q, e, ob⟩ := ss.ob l o h1
    rw [h3] at e; cases e
    subst z
    cases o with
    | lst ds => obtain ⟨vs, e, _⟩ := ob; rw [hp] at e; cases e
    | ins c fs => obtain ⟨C, dx, vs, _, e, _⟩ := ob; rw [hp] at e; cases e
    | dct kds => obtain ⟨vs, e, _⟩ := ob; rw [hp] at e; cases e
    | dead => exact h2 rfl
  have at_ : ∀ (l : Nat) (o : O), (m ++ [O.lst ds])[l]? = some o → (l < m.length ∧ m[l]? = some o) ∨ (l = m.length ∧ o = .lst ds) := fun l o h => by
    by_cases hl : l < m.length
    · rw [List.getElem?_append_left hl] at h
      exact .inl ⟨hl, h⟩
    · rw [List.getElem?_append_right (by omega)] at h
      have : l - m.length = 0 := by
        have := (List.getElem?_eq_some_iff.mp h).1
        simp at this; omega
      rw [this] at h
      simp at h
      exact .inr ⟨by omega, h.symm⟩
  have ta : ∀ (l : Nat), l < m.length → (t ++ [p])[l]? = t[l]? := fun l hl => List.getElem?_append_left (by rw [ss.len]; exact hl)
  have tl : (t ++ [p])[m.length]? = some p := by rw [List.getElem?_append_right (by rw [ss.len]; exact Nat.le_refl _), ss.len]; simp
  refine ⟨by simp [ss.len], fun l o h => ?_, fun a q => ?_, fun l l' o o' q h1 h2 n1 n2 h3 h4 => ?_⟩
  · rcases at_ l o h with ⟨hl, h⟩ | ⟨rfl, rfl⟩
    · obtain ⟨a, e, ob⟩ := ss.ob l o h
      exact ⟨a, by rw [ta l hl]; exact e, ob.mono le ex fun u hu _ => by rw [upd_ne (ne_of_none hu hp)]; exact hu⟩
    · exact ⟨p, tl, vs, upd_same, r.mono le ex⟩
  · rcases List.mem_append.mp q with z | z
    · obtain ⟨u, e⟩ := ss.kn a z
      exact ⟨u, by rw [upd_ne (ne_of_none e hp)]; exact e⟩
    · rw [List.mem_singleton] at z
      subst z
      exact ⟨_, upd_same⟩
  · rcases at_ l o h1 with ⟨hl, h1⟩ | ⟨rfl, rfl⟩
    · rcases at_ l' o' h2 with ⟨hl', h2⟩ | ⟨rfl, rfl⟩
      · rw [ta l hl] at h3; rw [ta l' hl'] at h4
        exact ss.inj l l' o o' q h1 h2 n1 n2 h3 h4
      · rw [ta l hl] at h3; rw [tl] at h4; cases h4
        exact absurd rfl (known l o p h1 n1 h3)
    · rcases at_ l' o' h2 with ⟨hl', h2⟩ | ⟨rfl, rfl⟩
      · rw [ta l' hl'] at h4; rw [tl] at h3; cases h3
        exact absurd rfl (known l' o' p h2 n2 h4)
      · rfl
theorem di_newL {es : List Expr} {ms : M (List D)} (h : PA X es (RdA G W ms)) : PE X (.List es pos) (RdE G W (mApN newL ms)) := by
  refine PE.imp (pe_lst h) fun s H Q ⟨r, μ, t, se, ss, k⟩ => ?_
  refine rd_step se ss k fun ds μ1 xs H1 t1 _ se1 ss1 r1 k1 => ?_
  have k2 := KE.ofO_ k1
  unfold newL at k2
  split at k2
  · rename_i c
    refine ⟨by rw [← RDs.length r1]; exact lim_le c, fun p hp => ?_⟩
    refine k2 _ _ (t1 ++ [p]) (Stp.grow hp) (ss1.grow r1 hp) (.ref ?_)
    rw [← ss1.len]; simp
  · exact k2.elim
theorem di_callB {id : String} {x : Str} {p : Pos} {es : List Expr} {f : ON} {ms : M (List D)} (hc : CallR X (.builtin id) (rON G f)) (hg : Gl X x) (hm : X.mg x = none) (hv : bootBuiltins x = some (.builtin id)) (ha : PA X (a :: es) (RdA G W ms)) (hn : x ≠ "__name__") (hdb : (x == ("__debug__" : Str)) = false)
    (he : starEach (a :: es) X.env = (false, eval a X.env) :: starEach es X.env) (hpl : (backTo pos (starEach es X.env)).any (·.1) = false) : PE X (.Call (.Name x p) (a :: es) [] pos) (RdE G W (mApN f ms)) := by
  refine PE.imp (pe_callB hc hg hm hv ha hn hdb he hpl) fun s H Q ⟨r, μ, t, se, ss, k⟩ => ?_
  exact rd_step se ss k fun ds μ1 xs H1 t1 _ se1 ss1 r1 k1 => ⟨ds, μ1, t1, ss1, r1, KE.ofO_ k1⟩
theorem di_callTy {id : String} {x : Str} {p : Pos} {es : List Expr} {f : ON} {ms : M (List D)} (hc : CallR X (.type id) (rON G f)) (hg : Gl X x) (hm : X.mg x = none) (hv : bootBuiltins x = some (.type id)) (ha : PA X (a :: es) (RdA G W ms)) (hn : x ≠ "__name__") (hdb : (x == ("__debug__" : Str)) = false)
    (he : starEach (a :: es) X.env = (false, eval a X.env) :: starEach es X.env) (hpl : (backTo pos (starEach es X.env)).any (·.1) = false) : PE X (.Call (.Name x p) (a :: es) [] pos) (RdE G W (mApN f ms)) := by
  refine PE.imp (pe_callTy hc hg hm hv ha hn hdb he hpl) fun s H Q ⟨r, μ, t, se, ss, k⟩ => ?_
  exact rd_step se ss k fun ds μ1 xs H1 t1 _ se1 ss1 r1 k1 => ⟨ds, μ1, t1, ss1, r1, KE.ofO_ k1⟩
end
end DI

set_option Elab.async false
set_option linter.all false
set_option maxRecDepth 100000
set_option maxHeartbeats 4000000
/-! DIG: targets, walked things, statements: actions and rules. -/
namespace DI
open PySem PySem.Spec L2
open PyProof.Rows hiding St

/-! ### targets -/
inductive P where
  | nm (i : Nat) | tp (ps : List P) | tpS (ps : List P) (q : P) | tpM (q : P) (rs : List P)
mutual
def bindP : P → D → Env → Option Env
  | .nm i, d, r => some (r.set i (some d))
  | .tp ps, d, r => match d with
    | .tup ds => bindPs ps ds r
    | _ => none
  | .tpS ps q, d, r => match d with
    | .tup ds => if ps.length ≤ ds.length then (bindPs ps (ds.take ps.length) r).bind fun r1 => bindP q (.lst (ds.drop ps.length)) r1 else none
    | _ => none
  | .tpM q rs, d, r => match d with
    | .tup ds => if rs.length ≤ ds.length then (bindP q (.lst (ds.take (ds.length - rs.length))) r).bind fun r1 => bindPs rs (ds.drop (ds.length - rs.length)) r1 else none
    | _ => none
def bindPs : List P → List D → Env → Option Env
  | [], [], r => some r
  | p :: ps, d :: ds, r => (bindP p d r).bind fun r1 => bindPs ps ds r1
  | _, _, _ => none
end
mutual
def slotsP : P → List Nat
  | .nm i => [i]
  | .tp ps => slotsPs ps
  | .tpS ps q => slotsPs ps ++ slotsP q
  | .tpM q rs => slotsP q ++ slotsPs rs
def slotsPs : List P → List Nat
  | [] => []
  | p :: ps => slotsP p ++ slotsPs ps
end
/-- names outside of the target stay -/
def But (l : List Nat) (s s' : St) : Prop := s'.length = s.length ∧ ∀ i, i ∉ l → s'[i]? = s[i]?
/-- only new things come -/
def Up (H H' : Hp) : Prop := ∀ b u, H b = some u → H' b = some u
theorem Up.refl (H : Hp) : Up H H := fun _ _ h => h
theorem Up.trans {H H1 H2 : Hp} (a : Up H H1) (b : Up H1 H2) : Up H H2 := fun c u h => b c u (a c u h)
theorem Up.new {H : Hp} {p : Addr} {o : HO} (h : H p = none) : Up H (upd H p o) := fun b u e => by rw [upd_ne (ne_of_none e h)]; exact e
theorem Up.stp {t : List Addr} {H H' : Hp} (u : Up H H') : Stp t H t H' := ⟨Le.refl t, ⟨fun b xs e => u b _ e, fun b o x e => u b _ e⟩, fun b x e _ => u b x e, fun _ h => .inl h⟩
theorem Up.ex {H H' : Hp} (u : Up H H') : Ext H H' := ⟨fun b xs e => u b _ e, fun b o x e => u b _ e⟩
theorem SS.up {G : Gx} {t : List Addr} {H H' : Hp} {m : Sto} (s : SS G t H m) (u : Up H H') : SS G t H' m := by
  refine ⟨s.len, fun l o h => ?_, fun a h => ?_, s.inj⟩
  · obtain ⟨p, e, ob⟩ := s.ob l o h
    exact ⟨p, e, ob.mono (Le.refl t) u.ex fun x hx _ => u _ _ hx⟩
  · obtain ⟨x, e⟩ := s.kn a h
    exact ⟨x, u _ _ e⟩
def RdG (G : Gx) (p : P) : TG := fun v s H Q => ∃ d r t r', SE G t H r s ∧ RD G t H d v ∧ bindP p d r = some r' ∧ ∀ s' H', Up H H' → SE G t H' r' s' → But (slotsP p) s s' → Q s' H'
def RdGs (G : Gx) (ps : List P) : TGs := fun vs s H Q => ∃ ds r t r', SE G t H r s ∧ RDs G t H ds vs ∧ bindPs ps ds r = some r' ∧ ∀ s' H', Up H H' → SE G t H' r' s' → But (slotsPs ps) s s' → Q s' H'
section
variable {X : Cx} {G : Gx} {W : WX} {pos : Pos}
theorem PG.imp {e : Expr} {g g' : TG} (h : PG X e g) (i : ∀ v s H Q, g' v s H Q → g v s H Q) : PG X e g' := ⟨fun pins s σ H v u Q I r q => h.run pins s σ H v u Q I r (i _ _ _ _ q)⟩
theorem PGs.imp {e : List Expr} {g g' : TGs} (h : PGs X e g) (i : ∀ v s H Q, g' v s H Q → g v s H Q) : PGs X e g' := ⟨fun pins s σ H v u Q I r q => h.run pins s σ H v u Q I r (i _ _ _ _ q)⟩
theorem SE.set {t : List Addr} {H : Hp} {r : Env} {s : St} {i : Nat} {d : D} {v : V} (hfr : G.fr i = true) (se : SE G t H r s) (rd : RD G t H d v) : SE G t H (r.set i (some d)) (s.set i (some v)) := by
  refine ⟨by rw [List.length_set, List.length_set]; exact se.len, fun j e h => ?_, G.jf _ _ _ _ _ hfr se.j⟩
  by_cases hj : i = j
  · subst hj
    have hl : i < r.length := by
      have := (List.getElem?_eq_some_iff.mp h).1
      rw [List.length_set] at this; exact this
    rw [List.getElem?_set_self hl] at h
    cases h
    exact ⟨v, by rw [List.getElem?_set_self (by rw [← se.len]; exact hl)], rd⟩
  · rw [List.getElem?_set_ne hj] at h ⊢
    exact se.at_ j e h
theorem di_gn {i : Nat} {x : Str} (hN : X.N.Nodup) (hi : X.N[i]? = some x) (hx : Loc X.env.scope x) (hf : X.fn x = true ∨ X.env.scope.names.lookup x = some .local) (hfr : G.fr i = true) : PG X (.Name x pos) (RdG G (.nm i)) :=
  PG.imp (pg_name hN hi hx hf) fun v s H Q ⟨d, r, t, r', se, rd, e, q⟩ => by
    simp only [bindP, Option.some.injEq] at e
    subst e
    exact q _ _ (Up.refl _) (se.set hfr rd) ⟨List.length_set, fun j hj => List.getElem?_set_ne (fun z => hj (by simp [slotsP, z]))⟩
theorem di_gnil : PGs X [] (RdGs G []) := PGs.imp pgs_nil fun vs s H Q ⟨ds, r, t, r', se, rd, e, q⟩ => by
  cases rd with
  | nil =>
    simp only [bindPs, Option.some.injEq] at e
    subst e
    exact ⟨rfl, q _ _ (Up.refl _) se ⟨rfl, fun _ _ => rfl⟩⟩
  | cons a b => simp [bindPs] at e
theorem di_gcons {e : Expr} {es : List Expr} {p : P} {ps : List P} (h1 : PG X e (RdG G p)) (h2 : PGs X es (RdGs G ps)) (hs : (assignEach (e :: es) X.env).map (·.2) = assign e X.env :: (assignEach es X.env).map (·.2)) : PGs X (e :: es) (RdGs G (p :: ps)) :=
  PGs.imp (pgs_cons h1 h2 hs) fun vs s H Q ⟨ds, r, t, r', se, rd, ee, q⟩ => by
    cases rd with
    | nil => simp [bindPs] at ee
    | cons a b =>
      simp only [bindPs, Option.bind_eq_some_iff] at ee
      obtain ⟨r1, e1, e2⟩ := ee
      exact ⟨_, _, rfl, _, r, t, r1, se, a, e1, fun s' H1 u1 se' b1 => ⟨_, r1, t, r', se', b.mono (Le.refl t) u1.ex, e2, fun s2 H2 u2 se2 b2 => q s2 H2 (u1.trans u2) se2 ⟨b2.1.trans b1.1, fun i hi => by
        simp only [slotsPs, List.mem_append, not_or] at hi
        exact (b2.2 i hi.2).trans (b1.2 i hi.1)⟩⟩⟩
theorem bindPs_len : ∀ {ps : List P} {ds : List D} {r r' : Env}, bindPs ps ds r = some r' → ps.length = ds.length
  | [], [], _, _, _ => rfl
  | [], _ :: _, _, _, h => by simp [bindPs] at h
  | _ :: _, [], _, _, h => by simp [bindPs] at h
  | p :: ps, d :: ds, r, r', h => by
    simp only [bindPs, Option.bind_eq_some_iff] at h
    obtain ⟨r1, _, e2⟩ := h
    rw [List.length_cons, List.length_cons, bindPs_len e2]
theorem di_gtup (hK : G.K = X.K) (hc : X.calm = true) {es : List Expr} {k : Nat} {ps : List P} (h : PGs X es (RdGs G ps)) (hn : (assignEach es X.env).length = ps.length) (hst : (assignEach es X.env).findIdx? (·.1) = none) : PG X (.Tuple es k pos) (RdG G (.tp ps)) :=
  PG.imp (pg_tup hc h hn hst) fun v s H Q ⟨d, r, t, r', se, rd, e, q⟩ => by
    simp only [bindP] at e
    split at e
    · cases rd with
      | tup s1 q1 => rw [hK] at s1; exact ⟨_, _, rfl, s1, by rw [← q1.length, bindPs_len e], _, r, t, r', se, q1, e, q⟩
    · cases e
end

/-! ### walked things -/
structure ItD where
  items : List D
  live : Option Nat
def Live (it : ItD) (m : Sto) : Prop := match it.live with
  | none => True
  | some l => m[l]? = some (.lst it.items)
def IterOf (G : Gx) (t1 : List Addr) (H1 : Hp) (it : ItD) (J : It) : Prop := ∀ (i : Nat) (H : Hp) (t : List Addr) (m : Sto), Stp t1 H1 t H → SS G t H m → Live it m →
  (it.items.length ≤ i → J.stop i H) ∧ ∀ d, it.items[i]? = some d → J.go i H ∧ ∀ x H', J.yld i H x H' → Stp t H t H' ∧ SS G t H' m ∧ RD G t H' d x
abbrev relI (G : Gx) : List Addr → Hp → ItD → It → Prop := fun t H it J => IterOf G t H it J
abbrev RdI (G : Gx) (W : WX) (m : M ItD) : TI := Rd G W (relI G) m
/-- a value that is walked -/
def itV (d : D) (m : Sto) : Option ItD := match d with
  | .lst xs => some ⟨xs, none⟩
  | .tup xs => some ⟨xs, none⟩
  | .str z => some ⟨z.cps.toList.map fun c => .str ⟨#[c]⟩, none⟩
  | .ref l => match m[l]? with
    | some (.lst xs) => some ⟨xs, some l⟩
    | _ => none
  | _ => none
def mItV (a : M D) : M ItD := fun r m => (a r m).bind fun d m1 => match itV d m1 with
  | some it => .ok it m1
  | none => .stuck
def intRange (lo : Int) (n : Nat) : List D := (List.range n).map fun i => .int (lo + (i : Nat))
def rngI (ds : List D) : Option ItD := match ds with
  | [.int j] => if -(2 ^ 62) ≤ j ∧ j < 2 ^ 62 then some ⟨intRange 0 j.toNat, none⟩ else none
  | [.int i, .int j] => if -(2 ^ 62) ≤ i ∧ i < 2 ^ 62 ∧ -(2 ^ 62) ≤ j ∧ j < 2 ^ 62 then some ⟨intRange i (j - i).toNat, none⟩ else none
  | _ => none
def mItR (a : M (List D)) : M ItD := fun r m => (a r m).bind fun ds m1 => match rngI ds with
  | some it => .ok it m1
  | none => .stuck
section
variable {X : Cx} {G : Gx} {W : WX} {pos : Pos} {tg : Expr}
theorem PI.imp {e : Expr} {w w' : TI} (h : PI X tg e w) (i : ∀ s H Q, w' s H Q → w s H Q) : PI X tg e w' := ⟨fun pins s σ H R I q => h.run pins s σ H R I (i _ _ _ q)⟩
theorem PI.or {e : Expr} {w w' : TI} (h : PI X tg e w) (h' : PI X tg e w') : PI X tg e (fun s H Q => w s H Q ∨ w' s H Q) := ⟨fun pins s σ H R I q => q.elim (fun z => h.run pins s σ H R I z) fun z => h'.run pins s σ H R I z⟩
theorem di_itV (hK : G.K = X.K) {e : Expr} {me : M D} (he : PE X e (RdE G W me)) : PI X tg e (RdI G W (mItV me)) := by
  refine PI.imp (PI.or (PI.or (pi_list he) (pi_tup he)) (pi_str he)) fun s H Q ⟨r, μ, t, se, ss, k⟩ => ?_
  unfold mItV at k
  cases e1 : me r μ with
  | stuck => rw [e1] at k; exact k.elim
  | exc kk fs m =>
    rw [e1] at k
    exact .inl (.inl ⟨r, μ, t, se, ss, by rw [e1]; exact k⟩)
  | ok d m1 =>
    rw [e1] at k
    simp only [R.bind] at k
    cases e2 : itV d m1 with
    | none => rw [e2] at k; exact k.elim
    | some it =>
      rw [e2] at k
      unfold itV at e2
      split at e2
      · cases e2
        refine .inl (.inl ⟨r, μ, t, se, ss, ?_⟩)
        rw [e1]
        intro v H1 t1 ex ss1 rd
        cases rd with
        | lst s1 q1 =>
          refine ⟨_, rfl, ⟨_, s1.l⟩, k _ H1 t1 ex ss1 fun i H2 t2 m2 ex2 ss2 _ => ⟨fun hi => ⟨_, (sqF_of ex2.ex s1).l, by rw [← q1.length]; exact hi⟩, fun d hd => ?_⟩⟩
          obtain ⟨x, hx, rx⟩ := q1.get hd
          refine ⟨⟨_, x, (sqF_of ex2.ex s1).l, hx⟩, fun y H' yl => ?_⟩
          obtain ⟨rfl, yl⟩ := yl
          have hy := yl _ (sqF_of ex2.ex s1).l
          rw [hx] at hy; cases hy
          exact ⟨Stp.refl _ _, ss2, rx.mono ex2.le ex2.ex⟩
      · cases e2
        refine .inl (.inr ⟨r, μ, t, se, ss, ?_⟩)
        rw [e1]
        intro v H1 t1 ex ss1 rd
        cases rd with
        | tup s1 q1 =>
          rw [hK] at s1
          refine ⟨_, rfl, ⟨_, s1⟩, k _ H1 t1 ex ss1 fun i H2 t2 m2 ex2 ss2 _ => ⟨fun hi => ⟨_, rd_of ex2.ex s1, by rw [← q1.length]; exact hi⟩, fun d hd => ?_⟩⟩
          obtain ⟨x, hx, rx⟩ := q1.get hd
          refine ⟨⟨_, x, rd_of ex2.ex s1, hx⟩, fun y H' yl => ?_⟩
          obtain ⟨rfl, yl⟩ := yl
          have hy := yl _ (rd_of ex2.ex s1)
          rw [hx] at hy; cases hy
          exact ⟨Stp.refl _ _, ss2, rx.mono ex2.le ex2.ex⟩
      · rename_i z
        cases e2
        refine .inr ⟨r, μ, t, se, ss, ?_⟩
        rw [e1]
        intro v H1 t1 ex ss1 rd
        cases rd with
        | str =>
          refine ⟨z, rfl, k _ H1 t1 ex ss1 fun i H2 t2 m2 ex2 ss2 _ => ⟨fun hi => by simpa [Its] using hi, fun d hd => ?_⟩⟩
          rw [List.getElem?_map] at hd
          cases hc : z.cps.toList[i]? with
          | none => rw [hc] at hd; cases hd
          | some c =>
            rw [hc] at hd
            cases hd
            have hlt : i < z.cps.size := by simpa using (List.getElem?_eq_some_iff.mp hc).1
            refine ⟨hlt, fun y H' yl => ?_⟩
            obtain ⟨rfl, c', hc', rfl⟩ := yl
            have : c' = c := by
              rw [← Array.getElem?_toList, hc] at hc'
              exact (Option.some.inj hc').symm
            subst this
            exact ⟨Stp.refl _ _, ss2, .str _⟩
      · split at e2
        · rename_i hl
          cases e2
          refine .inl (.inl ⟨r, μ, t, se, ss, ?_⟩)
          rw [e1]
          intro v H1 t1 ex ss1 rd
          cases rd with
          | ref ha =>
            obtain ⟨vs, hv, q1⟩ := ss1.lst hl ha
            refine ⟨_, rfl, ⟨_, .inl (.inl hv)⟩, k _ H1 t1 ex ss1 fun i H2 t2 m2 ex2 ss2 lv => ?_⟩
            simp only [Live] at lv
            obtain ⟨us, hu, q2⟩ := ss2.lst lv (ex2.le _ _ ha)
            refine ⟨fun hi => ⟨us, .inl (.inl hu), by rw [← q2.length]; exact hi⟩, fun d hd => ?_⟩
            obtain ⟨x, hx, rx⟩ := q2.get hd
            refine ⟨⟨us, x, .inl (.inl hu), hx⟩, fun y H' yl => ?_⟩
            obtain ⟨rfl, yl⟩ := yl
            have hy := yl _ (.inl (.inl hu))
            rw [hx] at hy; cases hy
            exact ⟨Stp.refl _ _, ss2, rx⟩
        · cases e2
      · cases e2
theorem iter_rng {t : List Addr} {H : Hp} {lo : Int} {n : Nat} : IterOf G t H ⟨intRange lo n, none⟩ (Itr lo n) := fun i H' t' m ex ss _ => by
  have hl : (intRange lo n).length = n := by unfold intRange; rw [List.length_map, List.length_range]
  refine ⟨fun hi => by rw [hl] at hi; exact hi, fun d hd => ?_⟩
  have hi : i < n := by
    have := (List.getElem?_eq_some_iff.mp hd).1
    rw [hl] at this; exact this
  unfold intRange at hd
  rw [List.getElem?_map, List.getElem?_range hi] at hd
  cases hd
  refine ⟨hi, fun x H2 y => ?_⟩
  obtain ⟨rfl, rfl⟩ := y
  exact ⟨Stp.refl _ _, ss, .int _⟩
theorem di_itR1 {a : Expr} {p : Pos} {ms : M (List D)} (hg : Gl X "range") (hm : X.mg "range" = none) (ha : PA X [a] (RdA G W ms)) (hs : starEach [a] X.env = [(false, eval a X.env)]) (one : ∀ r m ds m1, ms r m = .ok ds m1 → ds.length = 1) : PI X tg (.Call (.Name "range" p) [a] [] pos) (RdI G W (mItR ms)) := by
  refine PI.imp (pi_range1 hg hm ha hs) fun s H Q ⟨r, μ, t, se, ss, k⟩ => ⟨r, μ, t, se, ss, ?_⟩
  unfold mItR at k
  cases e1 : ms r μ with
  | stuck => rw [e1] at k; exact k
  | exc kk fs m => rw [e1] at k; exact k
  | ok ds m =>
    rw [e1] at k
    simp only [R.bind] at k
    have h1 := one _ _ _ _ e1
    intro v H1 t1 ex ss1 rd
    cases e2 : rngI ds with
    | none => rw [e2] at k; exact k.elim
    | some it =>
      rw [e2] at k
      unfold rngI at e2
      split at e2
      · split at e2
        · rename_i c; cases e2
          obtain ⟨w, rfl, q⟩ := RDs.one rd
          cases q
          exact ⟨_, rfl, c.1, c.2, k _ H1 t1 ex ss1 iter_rng⟩
        · cases e2
      · simp at h1
      · cases e2
theorem di_itR2 {a b : Expr} {p : Pos} {ms : M (List D)} (hg : Gl X "range") (hm : X.mg "range" = none) (ha : PA X [a, b] (RdA G W ms)) (hs : starEach [a, b] X.env = [(false, eval a X.env), (false, eval b X.env)]) (hs2 : starEach [b] X.env = [(false, eval b X.env)]) (two : ∀ r m ds m1, ms r m = .ok ds m1 → ds.length = 2) :
    PI X tg (.Call (.Name "range" p) [a, b] [] pos) (RdI G W (mItR ms)) := by
  refine PI.imp (pi_range2 hg hm ha hs hs2) fun s H Q ⟨r, μ, t, se, ss, k⟩ => ⟨r, μ, t, se, ss, ?_⟩
  unfold mItR at k
  cases e1 : ms r μ with
  | stuck => rw [e1] at k; exact k
  | exc kk fs m => rw [e1] at k; exact k
  | ok ds m =>
    rw [e1] at k
    simp only [R.bind] at k
    have h1 := two _ _ _ _ e1
    intro v H1 t1 ex ss1 rd
    cases e2 : rngI ds with
    | none => rw [e2] at k; exact k.elim
    | some it =>
      rw [e2] at k
      unfold rngI at e2
      split at e2
      · simp at h1
      · split at e2
        · rename_i c; cases e2
          obtain ⟨w, w2, rfl, q, q2⟩ := RDs.two rd
          cases q; cases q2
          exact ⟨_, _, rfl, c, k _ H1 t1 ex ss1 iter_rng⟩
        · cases e2
      · cases e2
end

/-! ### statements -/
inductive RS where
  | nx (r : Env) (m : Sto) | ret (d : D) (m : Sto) | bk (r : Env) (m : Sto) | ct (r : Env) (m : Sto) | exc (k : Nat) (fs : List (Str × D)) (r : Env) (m : Sto) | stuck
abbrev SM := Env → Sto → RS
def KS (G : Gx) (W : WX) (x : RS) (t : List Addr) (H : Hp) (E : Ends) : Prop := match x with
  | .nx r m => ∀ s H' t', Stp t H t' H' → SE G t' H' r s → SS G t' H' m → E.nx s H'
  | .ret d m => ∀ v H' t', Stp t H t' H' → SS G t' H' m → RD G t' H' d v → E.rt v H'
  | .bk r m => ∀ s H' t', Stp t H t' H' → SE G t' H' r s → SS G t' H' m → E.bk s H'
  | .ct r m => ∀ s H' t', Stp t H t' H' → SE G t' H' r s → SS G t' H' m → E.ct s H'
  | .exc k fs r m => ∀ cls da s H' t', Stp t H t' H' → SE G t' H' r s → SS G t' H' m → RX G t' H' k fs cls da → W cls da s H'
  | .stuck => False
def RdS (G : Gx) (W : WX) (a : SM) : TS := fun E s H => ∃ r μ t, SE G t H r s ∧ SS G t H μ ∧ KS G W (a r μ) t H E
/-- an expression first -/
def RS.of {α : Type} (r : Env) (x : R α) (f : α → Sto → RS) : RS := match x with
  | .ok a m => f a m
  | .exc k fs m => .exc k fs r m
  | .stuck => .stuck
def RS.seq (x : RS) (f : Env → Sto → RS) : RS := match x with
  | .nx r m => f r m
  | .ret d m => .ret d m
  | .bk r m => .bk r m
  | .ct r m => .ct r m
  | .exc k fs r m => .exc k fs r m
  | .stuck => .stuck
def sNx : SM := fun r m => .nx r m
def sBk : SM := fun r m => .bk r m
def sCt : SM := fun r m => .ct r m
def sSeq (a b : SM) : SM := fun r m => (a r m).seq b
def sDrop (a : M D) : SM := fun r m => .of r (a r m) fun _ m1 => .nx r m1
def sRet (a : M D) : SM := fun r m => .of r (a r m) fun d m1 => .ret d m1
def sRetN : SM := fun _ m => .ret .non m
def sIf (c : M Bool) (a b : SM) : SM := fun r m => .of r (c r m) fun k m1 => if k = true then a r m1 else b r m1
def sAsg (p : P) (a : M D) : SM := fun r m => .of r (a r m) fun d m1 => match bindP p d r with
  | some r1 => .nx r1 m1
  | none => .stuck
open Classical in
noncomputable def forL (live : Sto → Prop) (p : P) (body : SM) : List D → Env → Sto → RS
  | [], r, m => if live m then .nx r m else .stuck
  | d :: ds, r, m => if live m then (match bindP p d r with
    | none => .stuck
    | some r1 => match body r1 m with
      | .nx r2 m2 => forL live p body ds r2 m2
      | .ct r2 m2 => forL live p body ds r2 m2
      | .bk r2 m2 => .nx r2 m2
      | x => x) else .stuck
noncomputable def sFor (it : M ItD) (p : P) (body : SM) : SM := fun r m => .of r (it r m) fun i m1 => forL (Live i) p body i.items r m1
section
variable {X : Cx} {G : Gx} {W : WX} {pos : Pos}
theorem PS.imp {st : Stmt} {t u : TS} (h : PS X st t) (i : ∀ E s H, u E s H → t E s H) : PS X st u := ⟨fun pins s σ H E I q => h.run pins s σ H E I (i _ _ _ q)⟩
theorem PSs.imp {st : List Stmt} {t u : TS} (h : PSs X st t) (i : ∀ E s H, u E s H → t E s H) : PSs X st u := ⟨fun pins s σ H E I q => h.run pins s σ H E I (i _ _ _ q)⟩
theorem KS.later {x : RS} {t t1 : List Addr} {H H1 : Hp} {E : Ends} (e : Stp t H t1 H1) (h : KS G W x t H E) : KS G W x t1 H1 E := by
  cases x with
  | nx r m => exact fun s H' t' e' => h s H' t' (e.trans e')
  | ret d m => exact fun v H' t' e' => h v H' t' (e.trans e')
  | bk r m => exact fun s H' t' e' => h s H' t' (e.trans e')
  | ct r m => exact fun s H' t' e' => h s H' t' (e.trans e')
  | exc k fs r m => exact fun c da s H' t' e' => h c da s H' t' (e.trans e')
  | stuck => exact h
/-- THE STEP for a statement that begins with an expression -/
theorem st_step {α β : Type} {rel : List Addr → Hp → α → β → Prop} {s : St} {H : Hp} {r : Env} {μ : Sto} {t : List Addr} {m1 : M α} {f : α → Sto → RS} {E : Ends} {Q' : β → Hp → Prop}
    (se : SE G t H r s) (ss : SS G t H μ) (k : KS G W (.of r (m1 r μ) f) t H E)
    (h : ∀ a μ' v H1 t1, Stp t H t1 H1 → SE G t1 H1 r s → SS G t1 H1 μ' → rel t1 H1 a v → KS G W (f a μ') t1 H1 E → Q' v H1) : Rd G W rel m1 s H Q' := by
  refine ⟨r, μ, t, se, ss, ?_⟩
  cases e : m1 r μ with
  | ok a μ' =>
    simp only [e, RS.of] at k
    exact fun v H' t' ex s' rl => h a μ' v H' t' ex (se.mono ex.le ex.ex) s' rl (k.later ex)
  | exc kk fs μ' =>
    simp only [e, RS.of] at k
    exact fun cls da H' t' ex s' rx => k cls da s H' t' ex (se.mono ex.le ex.ex) s' rx
  | stuck =>
    simp only [e, RS.of] at k
    exact k
theorem KS.nx_ {r : Env} {m : Sto} {t : List Addr} {H : Hp} {E : Ends} {s : St} (k : KS G W (.nx r m) t H E) (se : SE G t H r s) (ss : SS G t H m) : E.nx s H := k s H t (Stp.refl t H) se ss
theorem di_nxs : PSs X [] (RdS G W sNx) := PSs.imp pss_nil fun E s H ⟨r, μ, t, se, ss, k⟩ => KS.nx_ k se ss
theorem di_pass : PS X (.Pass pos) (RdS G W sNx) := PS.imp ps_pass fun E s H ⟨r, μ, t, se, ss, k⟩ => KS.nx_ k se ss
theorem di_brk : PS X (.Break pos) (RdS G W sBk) := PS.imp ps_break fun E s H ⟨r, μ, t, se, ss, k⟩ => k s H t (Stp.refl t H) se ss
theorem di_cont : PS X (.Continue pos) (RdS G W sCt) := PS.imp ps_continue fun E s H ⟨r, μ, t, se, ss, k⟩ => k s H t (Stp.refl t H) se ss
theorem rs_step {s : St} {H : Hp} {r : Env} {μ : Sto} {t : List Addr} {a : SM} {f : Env → Sto → RS} {E : Ends} {u : TS} (se : SE G t H r s) (ss : SS G t H μ) (k : KS G W ((a r μ).seq f) t H E)
    (h : ∀ r1 m1 s1 H1 t1, Stp t H t1 H1 → SE G t1 H1 r1 s1 → SS G t1 H1 m1 → KS G W (f r1 m1) t1 H1 E → u E s1 H1) : RdS G W a { E with nx := u E } s H := by
  refine ⟨r, μ, t, se, ss, ?_⟩
  cases e : a r μ with
  | nx r1 m1 =>
    simp only [e, RS.seq] at k
    exact fun s1 H1 t1 ex se1 ss1 => h r1 m1 s1 H1 t1 ex se1 ss1 (k.later ex)
  | ret d m => simp only [e, RS.seq] at k; exact k
  | bk r1 m => simp only [e, RS.seq] at k; exact k
  | ct r1 m => simp only [e, RS.seq] at k; exact k
  | exc kk fs r1 m => simp only [e, RS.seq] at k; exact k
  | stuck => simp only [e, RS.seq] at k; exact k
theorem di_seq {st : Stmt} {rest : List Stmt} {a b : SM} (h1 : PS X st (RdS G W a)) (h2 : PSs X rest (RdS G W b)) : PSs X (st :: rest) (RdS G W (sSeq a b)) :=
  PSs.imp (pss_cons h1 h2) fun E s H ⟨r, μ, t, se, ss, k⟩ => rs_step se ss k fun r1 m1 s1 H1 t1 _ se1 ss1 k1 => ⟨r1, m1, t1, se1, ss1, k1⟩
theorem di_one_s {st : Stmt} {a : SM} (h1 : PS X st (RdS G W a)) : PSs X [st] (RdS G W a) := pss_one h1
theorem di_drop {e : Expr} {a : M D} (he : PE X e (RdE G W a)) (hs : swapsWith e none pos.line X.env = pure false) : PS X (.Expr e pos) (RdS G W (sDrop a)) :=
  PS.imp (ps_expr he hs) fun E s H ⟨r, μ, t, se, ss, k⟩ => st_step se ss k fun d m1 v H1 t1 _ se1 ss1 _ k1 => KS.nx_ k1 se1 ss1
theorem di_ret {e : Expr} {a : M D} (he : PE X e (RdE G W a)) : PS X (.Return (some e) pos) (RdS G W (sRet a)) :=
  PS.imp (ps_ret he) fun E s H ⟨r, μ, t, se, ss, k⟩ => st_step se ss k fun d m1 v H1 t1 _ se1 ss1 rd k1 => k1 v H1 t1 (Stp.refl _ _) ss1 rd
theorem di_retN : PS X (.Return none pos) (RdS G W sRetN) := PS.imp ps_retN fun E s H ⟨r, μ, t, se, ss, k⟩ => k .non H t (Stp.refl _ _) ss .non
theorem di_ifS {c : Expr} {xs ys : List Stmt} {mc : M Bool} {a b : SM} (hc : PT X c (RdT G W mc)) (ha : PSs X xs (RdS G W a)) (hb : PSs X ys (RdS G W b)) : PS X (.If c xs ys pos) (RdS G W (sIf mc a b)) := by
  refine PS.imp (ps_if hc ha hb) fun E s H ⟨r, μ, t, se, ss, k⟩ => st_step se ss k fun d m1 v H1 t1 _ se1 ss1 rd k1 => ?_
  cases rd
  cases d with
  | true => exact ⟨r, m1, t1, se1, ss1, k1⟩
  | false => exact ⟨r, m1, t1, se1, ss1, k1⟩
theorem asg_end {p : P} {r : Env} {s : St} {t : List Addr} {H : Hp} {d : D} {v : V} {m : Sto} {E : Ends} (k : KS G W (match bindP p d r with
  | some r1 => RS.nx r1 m
  | none => .stuck) t H E) (se : SE G t H r s) (ss : SS G t H m) (rd : RD G t H d v) : RdG G p v s H E.nx := by
  cases e : bindP p d r with
  | none => rw [e] at k; exact k.elim
  | some r1 =>
    rw [e] at k
    exact ⟨d, r, t, r1, se, rd, e, fun s' H' u se' _ => KS.nx_ (k.later u.stp) se' (ss.up u)⟩
theorem di_asg {tg e : Expr} {a : M D} {p : P} (he : PE X e (RdE G W a)) (hg : PG X tg (RdG G p)) (hs : swapsWithSole [tg] e pos.line X.env = pure false) (hw : swappedStores [tg] e X.env = pure none) (h1 : (assignEach [tg] X.env).map (·.2) = [assign tg X.env]) :
    PS X (.Assign [tg] e pos) (RdS G W (sAsg p a)) :=
  PS.imp (ps_asg he hg hs hw h1) fun E s H ⟨r, μ, t, se, ss, k⟩ => st_step se ss k fun d m1 v H1 t1 _ se1 ss1 rd k1 => asg_end k1 se1 ss1 rd
theorem di_asgN {i : Nat} {x : Str} {e : Expr} {a : M D} {pos' : Pos} (hN : X.N.Nodup) (hi : X.N[i]? = some x) (hx : Loc X.env.scope x) (he : PE X e (RdE G W a)) (hs : swapsWith e (some (.Name x pos')) pos.line X.env = pure false) (hf : X.fn x = true ∨ X.env.scope.names.lookup x = some .local) (hfr : G.fr i = true) :
    PS X (.Assign [.Name x pos'] e pos) (RdS G W (sAsg (.nm i) a)) :=
  PS.imp (ps_set hN hi hx he hs hf) fun E s H ⟨r, μ, t, se, ss, k⟩ => st_step se ss k fun d m1 v H1 t1 _ se1 ss1 rd k1 => KS.nx_ k1 (SE.set hfr se1 rd) ss1
/-- a, b = x, y -/
theorem di_par {i j : Nat} {x y : Str} {a b : Expr} {ma mb : M D} {px py pt : Pos} {kt k2 pt2} (hc : X.calm = true) (hN : X.N.Nodup) (hi : X.N[i]? = some x) (hj : X.N[j]? = some y) (hij : i ≠ j) (hfi : G.fr i = true) (hfj : G.fr j = true)
    (hx : X.env.scope.names.lookup x = some .local) (hy : X.env.scope.names.lookup y = some .local) (ha : PA X [a, b] (RdA G W (mCons ma (mCons mb mNil))))
    (hw : swappedStores [.Tuple [.Name x px, .Name y py] kt pt] (.Tuple [a, b] k2 pt2) X.env = pure (some [x, y])) (hs : swapsWithSole [.Tuple [.Name x px, .Name y py] kt pt] (.Tuple [a, b] k2 pt2) pos.line X.env = pure false) :
    PS X (.Assign [.Tuple [.Name x px, .Name y py] kt pt] (.Tuple [a, b] k2 pt2) pos) (RdS G W (sAsg (.tp [.nm i, .nm j]) (mApN tupO (mCons ma (mCons mb mNil))))) := by
  refine PS.imp (ps_par hc hN hi hj hij hx hy ha hw hs) fun E s H ⟨r, μ, t, se, ss, k⟩ => ?_
  have k' : KS G W (.of r (mCons ma (mCons mb mNil) r μ) fun ds m1 => .of r (ofO (tupO ds m1)) fun d m1 => match bindP (.tp [.nm i, .nm j]) d r with
    | some r1 => RS.nx r1 m1
    | none => .stuck) t H E := by
    unfold sAsg mApN at k
    cases e : mCons ma (mCons mb mNil) r μ with
    | ok ds m => rw [e] at k; exact k
    | exc kk fs m => rw [e] at k; exact k
    | stuck => rw [e] at k; exact k
  refine st_step se ss k' fun ds m1 vs H1 t1 _ se1 ss1 rd k1 => ?_
  unfold tupO at k1
  split at k1
  · simp only [ofO, RS.of, bindP] at k1
    cases rd with
    | nil => simp only [bindPs] at k1; exact k1.elim
    | cons r1 rd =>
      cases rd with
      | nil => simp only [bindPs, bindP, Option.bind_some] at k1; exact k1.elim
      | cons r2 rd =>
        cases rd with
        | nil =>
          simp only [bindPs, bindP, Option.bind_some] at k1
          exact ⟨_, _, rfl, KS.nx_ k1 (SE.set hfj (SE.set hfi se1 r1) r2) ss1⟩
        | cons r3 rd => simp only [bindPs, bindP, Option.bind_some] at k1; exact k1.elim
  · exact k1.elim
theorem forL_cons {live : Sto → Prop} {p : P} {body : SM} {d : D} {ds : List D} {r : Env} {m : Sto} (h : live m) : forL live p body (d :: ds) r m = (match bindP p d r with
    | none => .stuck
    | some r1 => match body r1 m with
      | .nx r2 m2 => forL live p body ds r2 m2
      | .ct r2 m2 => forL live p body ds r2 m2
      | .bk r2 m2 => .nx r2 m2
      | x => x) := by
  rw [forL, if_pos h]
theorem forL_live {live : Sto → Prop} {p : P} {body : SM} {ds : List D} {r : Env} {m : Sto} (h : ¬ live m) : forL live p body ds r m = .stuck := by
  cases ds with
  | nil => rw [forL, if_neg h]
  | cons d ds => rw [forL, if_neg h]
theorem di_for {tg iter : Expr} {body : List Stmt} {mi : M ItD} {p : P} {b : SM} (hp : PassesOwn (model X.prog X.w) X.A X.env X.xe) (hc : X.calm = true) (hi : PI X tg iter (RdI G W mi)) (hg : PG X tg (RdG G p)) (hb : PSs X body (RdS G W b))
    (hs : ∀ x, foldedSetIterable iter X.env x = pure x) : PS X (.For tg iter body [] pos) (RdS G W (sFor mi p b)) := by
  refine PS.imp (ps_for hp hc hi hg hb hs) fun E s H ⟨r, μ, t, se, ss, k⟩ => st_step se ss k fun it m1 J H1 t1 _ se1 ss1 io k1 => ?_
  refine ⟨fun i n σ H2 => n = it.items.length - i ∧ i ≤ it.items.length ∧ ∃ r2 m2 t2, Stp t1 H1 t2 H2 ∧ SE G t2 H2 r2 σ ∧ SS G t2 H2 m2 ∧ KS G W (forL (Live it) p b (it.items.drop i) r2 m2) t2 H2 E, ⟨it.items.length, rfl, Nat.zero_le _, r, m1, t1, Stp.refl _ _, se1, ss1, k1⟩, ?_⟩
  rintro i n σ H2 ⟨rfl, hi2, r2, m2, t2, ex, se2, ss2, k2⟩
  by_cases lv : Live it m2
  · obtain ⟨st, go⟩ := io i H2 t2 m2 ex ss2 lv
    by_cases hlt : i < it.items.length
    · obtain ⟨g1, g2⟩ := go it.items[i] (List.getElem?_eq_getElem hlt)
      rw [List.drop_eq_getElem_cons hlt, forL_cons lv] at k2
      refine .inr ⟨g1, fun σ' H' => i + 1 ≤ it.items.length ∧ ∃ r3 m3 t3, Stp t1 H1 t3 H' ∧ SE G t3 H' r3 σ' ∧ SS G t3 H' m3 ∧ KS G W (forL (Live it) p b (it.items.drop (i + 1)) r3 m3) t3 H' E, fun σ' H' q => ⟨it.items.length - (i + 1), by omega, rfl, q.1, q.2⟩, fun x H3 y => ?_⟩
      obtain ⟨ex3, ss3, rd3⟩ := g2 x H3 y
      cases e : bindP p it.items[i] r2 with
      | none => rw [e] at k2; exact k2.elim
      | some r3 =>
        rw [e] at k2
        refine ⟨_, r2, t2, r3, se2.mono ex3.le ex3.ex, rd3, e, fun s' H5 u5 se' _ => ⟨r3, m2, t2, se', ss3.up u5, ?_⟩⟩
        have ex3 := ex3.trans u5.stp
        simp only at k2
        cases eb : b r3 m2 with
        | nx r4 m4 => rw [eb] at k2; exact fun s4 H4 t4 ex4 se4 ss4 => ⟨hlt, r4, m4, t4, ex.trans (ex3.trans ex4), se4, ss4, k2.later (ex3.trans ex4)⟩
        | ct r4 m4 => rw [eb] at k2; exact fun s4 H4 t4 ex4 se4 ss4 => ⟨hlt, r4, m4, t4, ex.trans (ex3.trans ex4), se4, ss4, k2.later (ex3.trans ex4)⟩
        | bk r4 m4 => rw [eb] at k2; exact fun s4 H4 t4 ex4 se4 ss4 => k2 s4 H4 t4 (ex3.trans ex4) se4 ss4
        | ret d m4 => rw [eb] at k2; exact fun v H4 t4 ex4 => k2 v H4 t4 (ex3.trans ex4)
        | exc kk fs r4 m4 => rw [eb] at k2; exact fun c da s4 H4 t4 ex4 => k2 c da s4 H4 t4 (ex3.trans ex4)
        | stuck => rw [eb] at k2; exact k2
    · have e : i = it.items.length := by omega
      subst e
      refine .inl ⟨st (Nat.le_refl _), ?_⟩
      rw [List.drop_length, forL, if_pos lv] at k2
      exact KS.nx_ k2 se2 ss2
  · rw [forL_live lv] at k2
    exact k2.elim
end
end DI

set_option Elab.async false
set_option linter.all false
set_option maxRecDepth 100000
set_option maxHeartbeats 4000000
/-! DIH: comprehensions, stores into lists, append: actions and rules. -/
namespace DI
open PySem PySem.Spec L2
open PyProof.Rows hiding St

/-! ### comprehensions -/
def wipeE (r : Env) : List Nat → Env
  | [] => r
  | v :: vs => (wipeE r vs).set v none
open Classical in
noncomputable def lcL (live : Sto → Prop) (p : P) (mc : M Bool) (me : M D) (r : Env) : List D → List D → Sto → R D
  | [], acc, m => if live m then .ok (.lst acc) m else .stuck
  | d :: ds, acc, m => if live m then (match bindP p d r with
    | none => .stuck
    | some r1 => match mc r1 m with
      | .ok true m1 => (match me r1 m1 with
        | .ok y m2 => if acc.length < lim then lcL live p mc me r ds (acc ++ [y]) m2 else .stuck
        | _ => .stuck)
      | .ok false m1 => lcL live p mc me r ds acc m1
      | _ => .stuck) else .stuck
noncomputable def mLc (mi : M ItD) (own : List Nat) (p : P) (mc : M Bool) (me : M D) : M D := fun r m => (mi r m).bind fun it m1 => lcL (Live it) p mc me (wipeE r own) it.items [] m1
def mYes : M Bool := fun _ m => .ok true m
section
variable {X : Cx} {G : Gx} {W : WX} {pos : Pos}
theorem wipe_at {α : Type} (s : List (Option α)) : ∀ (vs : List Nat) (i : Nat), ((vs.foldr (fun v (t : List (Option α)) => t.set v none) s)[i]?) = if i ∈ vs then (if i < s.length then some none else none) else s[i]?
  | [], i => by simp
  | v :: vs, i => by
    have ih := wipe_at s vs i
    have len : ∀ us : List Nat, (us.foldr (fun v (t : List (Option α)) => t.set v none) s).length = s.length := fun us => by
      induction us with
      | nil => rfl
      | cons u us ih => rw [List.foldr_cons, List.length_set, ih]
    rw [List.foldr_cons]
    by_cases h : v = i
    · subst h
      by_cases hl : v < s.length
      · rw [List.getElem?_set_self (by rw [len]; exact hl)]
        simp [hl]
      · rw [List.getElem?_eq_none (by rw [List.length_set, len]; omega)]
        simp [hl]
    · rw [List.getElem?_set_ne h, ih]
      have : (i ∈ v :: vs) ↔ i ∈ vs := by simp [List.mem_cons, Ne.symm h]
      simp [this]
theorem wipe_foldr (s : St) (vs : List Nat) : wipe s vs = vs.foldr (fun v (t : St) => t.set v none) s := by
  induction vs with
  | nil => rfl
  | cons v vs ih => rw [List.foldr_cons, ← ih]; rfl
theorem wipeE_foldr (s : Env) (vs : List Nat) : wipeE s vs = vs.foldr (fun v (t : Env) => t.set v none) s := by
  induction vs with
  | nil => rfl
  | cons v vs ih => rw [List.foldr_cons, ← ih]; rfl
theorem wipe_but {s s' : St} {l vs : List Nat} (b : But l (wipe s vs) s') (h : ∀ i ∈ l, i ∈ vs) : wipe s' vs = wipe s vs := by
  have hl : s'.length = s.length := by rw [b.1, wipe_length]
  apply List.ext_getElem?
  intro i
  rw [wipe_foldr, wipe_foldr, wipe_at, wipe_at, hl]
  by_cases hi : i ∈ vs
  · rw [if_pos hi, if_pos hi]
  · rw [if_neg hi, if_neg hi, b.2 i (fun z => hi (h i z)), wipe_foldr, wipe_at, if_neg hi]
theorem j_wipe {t : List Addr} {H : Hp} {s : St} (h : G.J s t H) : ∀ vs : List Nat, (∀ i ∈ vs, G.fr i = true) → G.J (L2.wipe s vs) t H
  | [], _ => h
  | v :: vs, hv => G.jf _ _ _ _ _ (hv v List.mem_cons_self) (j_wipe h vs fun i hi => hv i (List.mem_cons_of_mem _ hi))
theorem SE.wipe {t : List Addr} {H : Hp} {r : Env} {s : St} (se : SE G t H r s) (vs : List Nat) (hv : ∀ i ∈ vs, G.fr i = true) : SE G t H (wipeE r vs) (L2.wipe s vs) := by
  refine ⟨?_, fun i d h => ?_, j_wipe se.j vs hv⟩
  · rw [wipe_length, ← se.len]
    clear hv
    induction vs with
    | nil => rfl
    | cons v vs ih => show ((wipeE r vs).set v none).length = _; rw [List.length_set, ih]
  · rw [wipeE_foldr, wipe_at] at h
    rw [wipe_foldr, wipe_at]
    by_cases hi : i ∈ vs
    · rw [if_pos hi] at h
      split at h <;> cases h
    · rw [if_neg hi] at h ⊢
      exact se.at_ i d h
theorem Stp.over {t t1 : List Addr} {H H1 : Hp} {p : Addr} {o u : HO} (h : Stp t H t1 H1) (hn : H p = none) (e : H1 p = some o) (s : Soft o) : Stp t H t1 (upd H1 p u) :=
  ⟨h.le, h.ex.trans (Ext.put e s), fun b x q n => by rw [upd_ne (ne_of_none q hn)]; exact h.keep b x q n, h.new⟩
theorem lcL_cons {live : Sto → Prop} {p : P} {mc : M Bool} {me : M D} {r : Env} {d : D} {ds acc : List D} {m : Sto} (h : live m) : lcL live p mc me r (d :: ds) acc m = (match bindP p d r with
    | none => .stuck
    | some r1 => match mc r1 m with
      | .ok true m1 => (match me r1 m1 with
        | .ok y m2 => if acc.length < lim then lcL live p mc me r ds (acc ++ [y]) m2 else .stuck
        | _ => .stuck)
      | .ok false m1 => lcL live p mc me r ds acc m1
      | _ => .stuck) := by
  rw [lcL, if_pos h]
theorem lcL_live {live : Sto → Prop} {p : P} {mc : M Bool} {me : M D} {r : Env} {ds acc : List D} {m : Sto} (h : ¬ live m) : lcL live p mc me r ds acc m = .stuck := by
  cases ds with
  | nil => rw [lcL, if_neg h]
  | cons d ds => rw [lcL, if_neg h]
abbrev W0 : WX := fun _ _ _ _ => False
/-- the comprehension's reading from its action -/
theorem lc_readsI {s : St} {H1 : Hp} {Q Q2 : VK} (imp : ∀ v H, WantF Q v H → Q2 v H) {mi : M ItD} {own : List Nat} {p : P} {mc : M Bool} {me : M D} (hp : ∀ i ∈ slotsP p, i ∈ own) (hfv : ∀ i ∈ own, G.fr i = true) {H : Hp} (h : RdE G W (mLc mi own p mc me) s H Q) : tLc (RdI G W mi) (RdG G p) (RdT G W0 mc) (RdE G W0 me) own s H Q2 := by
  obtain ⟨r, μ, t, se, ss, k⟩ := h
  refine rd_step se ss k fun it m1 J H1 t1 _ se1 ss1 io k1 => ?_
  intro Dl hD
  have hDt : Dl ∉ t1 := fun z => by obtain ⟨u, e⟩ := ss1.kn _ z; rw [hD] at e; cases e
  refine ⟨fun i n H2 => n = it.items.length - i ∧ i ≤ it.items.length ∧ ∃ acc vs m2 t2, Stp t1 H1 t2 H2 ∧ Dl ∉ t2 ∧ SS G t2 H2 m2 ∧ H2 Dl = some (.lst vs) ∧ RDs G t2 H2 acc vs ∧ KE G W s (relD G) (lcL (Live it) p mc me (wipeE r own) (it.items.drop i) acc m2) t1 H1 Q,
    ⟨it.items.length, rfl, Nat.zero_le _, [], [], m1, t1, Stp.fresh hD, hDt, ss1.new hD, upd_same, .nil, k1⟩, ?_⟩
  rintro i n H2 ⟨rfl, hi2, acc, vs, m2, t2, ex, nt2, ss2, hv, ra, k2⟩
  by_cases lv : Live it m2
  · obtain ⟨st, go⟩ := io i H2 t2 m2 ex ss2 lv
    by_cases hlt : i < it.items.length
    · obtain ⟨g1, g2⟩ := go it.items[i] (List.getElem?_eq_getElem hlt)
      rw [List.drop_eq_getElem_cons hlt, lcL_cons lv] at k2
      refine .inr ⟨g1, fun H' => i + 1 ≤ it.items.length ∧ ∃ acc vs m2 t2, Stp t1 H1 t2 H' ∧ Dl ∉ t2 ∧ SS G t2 H' m2 ∧ H' Dl = some (.lst vs) ∧ RDs G t2 H' acc vs ∧ KE G W s (relD G) (lcL (Live it) p mc me (wipeE r own) (it.items.drop (i + 1)) acc m2) t1 H1 Q, fun H' q => ⟨it.items.length - (i + 1), by omega, rfl, q.1, q.2⟩, fun x H3 y => ?_⟩
      obtain ⟨ex3, ss3, rd3⟩ := g2 x H3 y
      have hv3 := ex3.keep _ _ hv nt2
      cases e : bindP p it.items[i] (wipeE r own) with
      | none => rw [e] at k2; exact k2.elim
      | some r3 =>
        rw [e] at k2
        refine ⟨_, wipeE r own, t2, r3, ((se1.wipe own hfv).mono (ex.trans ex3).le (ex.trans ex3).ex), rd3, e, fun s' H5 u5 se' bt => ⟨wipe_but bt hp, r3, m2, t2, se', ss3.up u5, ?_⟩⟩
        have hv3 := u5 _ _ hv3
        have ex3 := ex3.trans u5.stp
        simp only at k2
        cases ec : mc r3 m2 with
        | stuck => rw [ec] at k2; exact k2.elim
        | exc kk fs m4 => rw [ec] at k2; exact k2.elim
        | ok b m4 =>
          rw [ec] at k2
          intro b' H4 t4 ex4 ss4 rb
          cases rb
          have ex24 := ex3.trans ex4
          have nt4 : Dl ∉ t4 := fun z => (ex4.new _ z).elim nt2 fun q => by rw [hv3] at q; cases q
          have hv4 := ex4.keep _ _ hv3 nt2
          cases b with
          | false =>
            exact ⟨hlt, acc, vs, m4, t4, ex.trans ex24, nt4, ss4, hv4, ra.mono ex24.le ex24.ex, k2⟩
          | true =>
            refine ⟨r3, m4, t4, se'.mono ex4.le ex4.ex, ss4, ?_⟩
            simp only at k2
            cases ey : me r3 m4 with
            | stuck => rw [ey] at k2; exact k2.elim
            | exc kk fs m5 => rw [ey] at k2; exact k2.elim
            | ok d m5 =>
              rw [ey] at k2
              simp only at k2
              intro v H5 t5 ex5 ss5 rv
              have hv5 := ex5.keep _ _ hv4 nt4
              have nt5 : Dl ∉ t5 := fun z => (ex5.new _ z).elim nt4 fun q => by rw [hv4] at q; cases q
              have ex25 := ex24.trans ex5
              split at k2
              · rename_i hl
                refine ⟨vs, hv5, ?_, hlt, acc ++ [d], vs ++ [v], m5, t5, (ex.trans ex25).over hD hv5 trivial, nt5, ss5.out nt5 hv5 trivial, upd_same, ?_, k2⟩
                · rw [← ra.length]; exact lim_lt hl
                · exact ((ra.mono ex25.le ex25.ex).append (.cons rv .nil)).mono (Le.refl _) (Ext.put hv5 trivial)
              · exact k2.elim
    · have e : i = it.items.length := by omega
      subst e
      refine .inl ⟨st (Nat.le_refl _), ?_⟩
      rw [List.drop_length, lcL, if_pos lv] at k2
      refine imp _ _ ⟨Dl, vs, rfl, hv, fun o => ?_⟩
      exact k2 _ _ t2 (ex.over hD hv trivial) (ss2.out nt2 hv trivial) (.lst ⟨o, upd_same⟩ (ra.mono (Le.refl _) (Ext.put hv trivial)))
  · rw [lcL_live lv] at k2
    exact k2.elim
theorem di_lc {elt tg iter : Expr} {ifs : List Expr} {scope : Scope} {own : List (Str × Nat)} {mi : M ItD} {p : P} {mc : M Bool} {me : M D} (hc : X.calm = true) (hN : X.N.Nodup) (hi : PI X tg iter (RdI G W mi)) (ok : BlkOk X.N X.env.scope scope own) (hp : ∀ i ∈ slotsP p, i ∈ own.map (·.2)) (hv : ∀ i ∈ own.map (·.2), G.fr i = true)
    (hg : ∀ (s : Shared) (H : Hp) (C : Addr) (cl : List (Str × Addr)) (fp : List Addr), PG (X.blk s H scope (compEnvC scope cl C X.env) fp) tg (RdG G p)) (ht : ∀ (s : Shared) (H : Hp) (C : Addr) (cl : List (Str × Addr)) (fp : List Addr), PTs (X.blk s H scope (compEnvC scope cl C X.env) fp) ifs (RdT G W0 mc))
    (he : ∀ (s : Shared) (H : Hp) (C : Addr) (cl : List (Str × Addr)) (fp : List Addr), PE (X.blk s H scope (compEnvC scope cl C X.env) fp) elt (RdE G W0 me)) (hs : ∀ x, foldedSetIterable iter X.env x = pure x) :
    PE X (.ListComp elt [⟨tg, iter, ifs, 0⟩] scope pos) (RdE G W (mLc mi (own.map (·.2)) p mc me)) :=
  PE.imp (pe_frz (pe_lc hc hN hi ok hg ht he hs)) fun s H Q h => lc_readsI (H1 := H) (fun _ _ z => z) hp hv h
theorem di_yes {ifs : List Expr} (h : ifs = []) : PTs X ifs (RdT G W0 mYes) := by
  subst h
  exact ⟨fun pins s σ H Q I q => pts_nil.run pins s σ H Q I (by obtain ⟨r, μ, t, se, ss, k⟩ := q; exact KE.ok_ k ss rfl)⟩
theorem di_ifc {c : Expr} {mc : M Bool} (h : PT X c (RdT G W0 mc)) : PTs X [c] (RdT G W0 mc) := pts_one h

/-! ### stores into mutable lists -/
theorem SS.put {t : List Addr} {H : Hp} {m : Sto} {l : Nat} {a : Addr} {xs ys : List D} {vs us : List V} (ss : SS G t H m) (h : m[l]? = some (.lst xs)) (ha : t[l]? = some a) (hv : H a = some (.lst vs)) (r : RDs G t H ys us) : SS G t (upd H a (.lst us)) (m.set l (.lst ys)) := by
  have hl : l < m.length := (List.getElem?_eq_some_iff.mp h).1
  have at_ : ∀ (j : Nat) (o : O), (m.set l (.lst ys))[j]? = some o → (j = l ∧ o = .lst ys) ∨ (j ≠ l ∧ m[j]? = some o) := fun j o q => by
    by_cases z : l = j
    · subst z; rw [List.getElem?_set_self hl] at q; cases q; exact .inl ⟨rfl, rfl⟩
    · rw [List.getElem?_set_ne z] at q; exact .inr ⟨Ne.symm z, q⟩
  have ex : Ext H (upd H a (.lst us)) := Ext.put hv trivial
  refine ⟨by rw [List.length_set]; exact ss.len, fun j o q => ?_, fun b q => ?_, fun j j' o o' q h1 h2 n1 n2 h3 h4 => ?_⟩
  · rcases at_ j o q with ⟨rfl, rfl⟩ | ⟨ne, q⟩
    · exact ⟨a, ha, us, upd_same, r.mono (Le.refl t) ex⟩
    · obtain ⟨b, hb, ob⟩ := ss.ob j o q
      refine ⟨b, hb, ?_⟩
      by_cases z : o = .dead
      · subst z; trivial
      · have nb : b ≠ a := fun e => ne (ss.inj j l o _ a q h z (fun w => nomatch w) (by rw [← e]; exact hb) ha)
        exact ob.mono (Le.refl t) ex fun u hu _ => by rw [upd_ne nb]; exact hu
  · by_cases z : b = a
    · subst z; exact ⟨_, upd_same⟩
    · obtain ⟨u, e⟩ := ss.kn b q; exact ⟨u, by rw [upd_ne z]; exact e⟩
  · have h1' : ∃ o1, m[j]? = some o1 ∧ o1 ≠ .dead := by
      rcases at_ j o h1 with ⟨rfl, _⟩ | ⟨_, q⟩
      · exact ⟨_, h, fun z => nomatch z⟩
      · exact ⟨_, q, n1⟩
    have h2' : ∃ o1, m[j']? = some o1 ∧ o1 ≠ .dead := by
      rcases at_ j' o' h2 with ⟨rfl, _⟩ | ⟨_, q⟩
      · exact ⟨_, h, fun z => nomatch z⟩
      · exact ⟨_, q, n2⟩
    obtain ⟨o1, e1, d1⟩ := h1'
    obtain ⟨o2, e2, d2⟩ := h2'
    exact ss.inj j j' o1 o2 q e1 e2 d1 d2 h3 h4
/-- o[i] = v, o a mutable list -/
def setD (o i v : D) (m : Sto) : Option Sto := match o, i with
  | .ref l, .int k => match m[l]? with
    | some (.lst xs) => match ixN xs.length k with
      | some j => some (m.set l (.lst (xs.set j v)))
      | none => none
    | _ => none
  | _, _ => none
def sSetIx (o i a : M D) : SM := fun r m => .of r (a r m) fun v m1 => .of r (o r m1) fun x m2 => .of r (i r m2) fun y m3 => match setD x y v m3 with
  | some m4 => .nx r m4
  | none => .stuck
theorem di_setIx {oe ie e : Expr} {o i a : M D} {tpos : Pos} (he : PE X e (RdE G W a)) (ho : PE X oe (RdE G W o)) (hi : PE X ie (RdE G W i)) (ha : ∀ v, assign (.Subscript oe ie tpos) X.env v = (do
      let ov ← holding [v] (eval oe X.env)
      let iv ← holding [v, ov] (eval ie X.env)
      standAt tpos
      holding [v, ov, iv] (setItem ov iv v)
      release [v, ov, iv] [])) (hs : swapsWithSole [.Subscript oe ie tpos] e pos.line X.env = pure false) (hw : swappedStores [.Subscript oe ie tpos] e X.env = pure none) : PS X (.Assign [.Subscript oe ie tpos] e pos) (RdS G W (sSetIx o i a)) := by
  refine PS.imp (ps_asg he (pg_sub ho hi set_list ha) hs hw rfl) fun E s H ⟨r, μ, t, se, ss, k⟩ => ?_
  refine st_step se ss k fun d m1 v H1 t1 _ se1 ss1 rd k1 => st_step se1 ss1 k1 fun x m2 ov H2 t2 e2 se2 ss2 rx k2 => st_step se2 ss2 k2 fun y m3 iv H3 t3 e3 se3 ss3 ry k3 => ?_
  cases e : setD x y d m3 with
  | none => rw [e] at k3; exact k3.elim
  | some m4 =>
    rw [e] at k3
    unfold setD at e
    split at e
    · split at e
      · rename_i hl
        split at e
        · rename_i j hj
          cases e
          cases ry
          cases rx with
          | ref hx =>
            have hx3 := e3.le _ _ hx
            obtain ⟨vs, hv, q⟩ := ss3.lst hl hx3
            refine ⟨_, _, _, j, rfl, rfl, hv, by rw [← q.length]; exact hj, ?_⟩
            have rd3 := RD.mono (e2.trans e3).le (e2.trans e3).ex rd
            exact k3 s _ t3 (Stp.put (List.mem_of_getElem? hx3) hv trivial) (se3.mono (Le.refl _) (Ext.put hv trivial)) (ss3.put hl hx3 hv (q.set rd3 j))
        · cases e
      · cases e
    · cases e
/-- xs.append(v), xs a mutable list -/
def appO : D → ON := fun o ds m => match o, ds with
  | .ref l, [v] => match m[l]? with
    | some (.lst xs) => if xs.length < lim then some (.non, m.set l (.lst (xs ++ [v]))) else none
    | _ => none
  | _, _ => none
def mMeth (f : D → ON) (o : M D) (a : M (List D)) : M D := fun r m => (o r m).bind fun x m1 => (a r m1).bind fun ds m2 => ofO (f x ds m2)
end
end DI

set_option Elab.async false
set_option linter.all false
set_option maxRecDepth 100000
set_option maxHeartbeats 4000000
/-! DIJ: append; what a def of the text promises (FnG), its call, its making. -/
namespace DI
open PySem PySem.Spec L2
open PyProof.Rows hiding St

/-! ### xs.append(v) -/
def isLst (x : D) (m : Sto) : Bool := match x with
  | .ref l => match m[l]? with
    | some (.lst _) => true
    | _ => false
  | _ => false
def mApp (o : M D) (a : M (List D)) : M D := fun r m => (o r m).bind fun x m1 => if isLst x m1 = true then (a r m1).bind fun ds m2 => ofO (appO x ds m2) else .stuck
section
variable {X : Cx} {G : Gx} {W : WX} {pos : Pos} {o e : Expr} {mo : M D} {ms : M (List D)}
theorem di_app {apos cpos : Pos} (ho : PE X o (RdE G W mo)) (ha : PA X [e] (RdA G W ms)) (hb : attributeBase o "append" X.env (eval o X.env) = eval o X.env)
    (hf : ((backTo cpos (starEach [e] X.env)).all (fun x => !x.1) && (backToKw cpos (keywordEach [] X.env)).all (fun x => x.1.isSome) && decide (([e] : List Expr).length + ([] : List Keyword).length + (if ([] : List Keyword).isEmpty then 0 else 1) < 30)) = true)
    (hl : (apos.endLine == cpos.line) = true) (hs : starEach [e] X.env = (false, eval e X.env) :: starEach [] X.env) (hp : (backTo cpos (starEach [] X.env)).any (·.1) = false) :
    PE X (.Call (.Attribute o "append" apos) [e] [] cpos) (RdE G W (mApp mo ms)) := by
  refine PE.imp (pe_bm F.plainAttrs_list F.slot_list_append F.type_list_append mt_append ho ha hb hf hl hs hp) fun s H Q ⟨r, μ, t, se, ss, k⟩ => ?_
  refine rd_step se ss k fun x m1 v H1 t1 _ se1 ss1 rx k1 => ?_
  cases c : isLst x m1 with
  | false => rw [c] at k1; exact k1.elim
  | true =>
    rw [c] at k1
    unfold isLst at c
    split at c
    · rename_i l
      split at c
      · rename_i xs hx
        cases rx with
        | ref hr =>
          obtain ⟨vs, hv, q⟩ := ss1.lst hx hr
          refine ⟨.inl ⟨rfl, vs, .inl (.inl hv)⟩, ?_⟩
          refine rd_step se1 ss1 k1 fun ds m2 us H2 t2 e2 _ ss2 rds k2 => ?_
          have k3 := KE.ofO_ k2
          cases e3 : appO (.ref l) ds m2 with
          | none => rw [e3] at k3; exact k3.elim
          | some p =>
            rw [e3] at k3
            unfold appO at e3
            split at e3
            · rename_i l' d heq
              cases heq
              split at e3
              · rename_i ys hy
                split at e3
                · rename_i hlen
                  cases e3
                  have hr2 := e2.le _ _ hr
                  obtain ⟨zs, hz, q2⟩ := ss2.lst hy hr2
                  obtain ⟨u, rfl, ru⟩ := RDs.one rds
                  refine ⟨_, zs, u, rfl, rfl, hz, by rw [← q2.length]; exact lim_lt hlen, ?_⟩
                  exact k3 _ _ t2 (Stp.put (List.mem_of_getElem? hr2) hz trivial) (ss2.put hy hr2 hz (q2.append (.cons ru .nil))) .non
                · cases e3
              · cases e3
            · cases e3
      · cases c
    · cases c
end

/-! ### what a def promises -/
abbrev CallF := Nat → List D → Sto → R D
/-- the promise of the text's def of number k with n parameters -/
def spG (G : Gx) (call : CallF) (k n : Nat) : Sp := fun vs H Q E => vs.length = n ∧ ∃ ds μ t, SS G t H μ ∧ RDs G t H ds vs ∧ KE G (fun c d _ H' => E c d H') [] (relD G) (call k ds μ) t H Q
/-- as a def's promise is told, but for callers that guard nothing -/
structure FnG (P : Program) (w : World) (K : PySem.W.Frag) (mg : Str → Option Value) (base : Heap) (lev : Nat) (f : Addr) (fd : FuncData) (ps : List Str) (sp : Sp) : Prop where
  cnt : ∀ vs H Q E, sp vs H Q E → vs.length = ps.length
  go : ∀ (A : Around) (out : List PySem.Env) (s : Shared) (H : Hp) (args : Args) (us : List Value) (vs : List V) (Q : VK) (E : XK), Room lev A → A.guards = some [] → Env0 P w K mg base A out s H →
    BindsTo s fd args (ps.zip us) → Vals vs us → sp vs H Q E → codeAny (model P w) A (.call (.ref f) args) (CR (L2.CX P w) out P w H s Q E) s
section
variable {P : Program} {w : World} {K : PySem.W.Frag} {mg : Str → Option Value} {base : Heap}
theorem FnG.imp {lev : Nat} {f : Addr} {fd : FuncData} {ps : List Str} {sp sp' : Sp} (F : FnG P w K mg base lev f fd ps sp) (h : ∀ vs H Q E, sp' vs H Q E → sp vs H Q E) : FnG P w K mg base lev f fd ps sp' :=
  ⟨fun vs H Q E q => F.cnt vs H Q E (h _ _ _ _ q), fun A out s H args us vs Q E r g e b v q => F.go A out s H args us vs Q E r g e b v (h _ _ _ _ q)⟩
end
section
variable {X : Cx} {lev : Nat} {f : Addr} {fd : FuncData} {ps : List Str} {sp : Sp} {ws : List V} {ds : List Value} {W : WX} {x : Str} {p pos : Pos} {e : Expr} {es : List Expr} {t : TA}
theorem goG {pins : List (Addr × Obj)} {σ : St} {H : Hp} {s : Shared} {Q : VK} {us : List Value} {vs : List V} (F : FnG X.prog X.w X.K X.mg X.base lev f fd ps sp) (hr : Room lev X.A) (hgd : X.A.guards = some []) (hb : Binds X.K fd ps ds) (hd : Vals ws ds) (tk : Takes X W)
    (I : Inv X pins σ H s) (rv : Vals vs us) (h : sp (vs ++ ws) H Q (fun c d H' => W c d σ H')) : wpAny (model X.prog X.w) X.A (call (.ref f) us) (EP X pins σ Q) X.xe s := by
  have rw_ : Vals (vs ++ ws) (us ++ ds) := rv.append hd
  have cl : (us ++ ds).length = ps.length := rw_.length.symm.trans (F.cnt _ _ _ _ h)
  refine wpAny_call (codeAny_mono (F.go X.A X.stack s H ⟨us, []⟩ (us ++ ds) (vs ++ ws) Q _ hr hgd I.env0 (hb s us I.kIn cl) rw_ h) fun res s2 hq => ?_)
  match res, hq with
  | .error e, hq => exact tk e s2 (XE.of_call I (fun _ _ _ z => z) hq)
  | .ok (.ret u), hq => exact I.after hq
  | .ok .next, hq => exact False.elim hq
  | .ok .brk, hq => exact False.elim hq
  | .ok .cont, hq => exact False.elim hq
def tCallG (sp : Sp) (ws : List V) (W : WX) (t : TA) : TE := fun σ H Q => t σ H fun vs H1 => sp (vs ++ ws) H1 Q (fun c d H' => W c d σ H')
theorem pe_callG (F : FnG X.prog X.w X.K X.mg X.base lev f fd ps sp) (hr : Room lev X.A) (hgd : X.A.guards = some []) (hg : Gl X x) (hm : X.mg x = some (.ref f)) (hk : PySem.W.keepIn X.K (.ref f) = true) (hb : Binds X.K fd ps ds) (hd : Vals ws ds) (tk : Takes X W)
    (ha : PA X (e :: es) t) (hdb : (x == ("__debug__" : Str)) = false) (he : starEach (e :: es) X.env = (false, eval e X.env) :: starEach es X.env) (hpl : (backTo pos (starEach es X.env)).any (·.1) = false) : PE X (.Call (.Name x p) (e :: es) [] pos) (tCallG sp ws W t) := by
  refine ⟨fun pins s σ H Q I h => wpAny_Call_Name_kw (ld_glob I hg hm ?_ hdb)⟩
  refine PySem.W.callWith_K (h₀ := X.base) I.ok.mod.kin hk (thn (ha.run pos pins s σ H _ I h) fun us s1 hh => ?_) he hpl
  obtain ⟨vs, H1, I1, rv, q⟩ := hh
  exact ⟨I1.kIn, goG F hr hgd hb hd tk I1 rv q⟩
theorem pe_callG0 (F : FnG X.prog X.w X.K X.mg X.base lev f fd ps sp) (hr : Room lev X.A) (hgd : X.A.guards = some []) (hg : Gl X x) (hm : X.mg x = some (.ref f)) (hk : PySem.W.keepIn X.K (.ref f) = true) (hb : Binds X.K fd ps ds) (hd : Vals ws ds) (tk : Takes X W)
    (hdb : (x == ("__debug__" : Str)) = false) : PE X (.Call (.Name x p) [] [] pos) (tCallG sp ws W tNil) := by
  refine ⟨fun pins s σ H Q I h => wpAny_Call_Name_kw (ld_glob I hg hm ?_ hdb)⟩
  exact PySem.W.callWith_K0 I.kIn hk (goG (us := []) F hr hgd hb hd tk I .nil h)
end
section
variable {X : Cx} {G : Gx} {W : WX} {call : CallF} {k n lev : Nat} {f : Addr} {fd : FuncData} {ps : List Str} {ws : List V} {ds : List Value} {x : Str} {p pos : Pos} {e : Expr} {es : List Expr} {ms : M (List D)} {dfl : List D}
/-- f(e, ..) -/
theorem di_call (F : FnG X.prog X.w X.K X.mg X.base lev f fd ps (spG G call k n)) (hr : Room lev X.A) (hgd : X.A.guards = some []) (hg : Gl X x) (hm : X.mg x = some (.ref f)) (hk : PySem.W.keepIn X.K (.ref f) = true) (hb : Binds X.K fd ps ds) (hd : Vals ws ds) (tk : Takes X W)
    (hw : ∀ t H, RDs G t H dfl ws) (ha : PA X (e :: es) (RdA G W ms)) (hn : ∀ r m xs m1, ms r m = .ok xs m1 → xs.length + dfl.length = n) (hdb : (x == ("__debug__" : Str)) = false) (he : starEach (e :: es) X.env = (false, eval e X.env) :: starEach es X.env)
    (hpl : (backTo pos (starEach es X.env)).any (·.1) = false) : PE X (.Call (.Name x p) (e :: es) [] pos) (RdE G W (mCall call k ms dfl)) := by
  refine PE.imp (pe_callG F hr hgd hg hm hk hb hd tk ha hdb he hpl) fun s H Q ⟨r, μ, t, se, ss, kk⟩ => ?_
  refine ⟨r, μ, t, se, ss, ?_⟩
  unfold mCall at kk
  cases e1 : ms r μ with
  | stuck => rw [e1] at kk; exact kk
  | exc _ _ _ => rw [e1] at kk; exact kk
  | ok xs m1 =>
    rw [e1] at kk
    intro vs H1 t1 ex ss1 rds
    have l1 := hn _ _ _ _ e1
    have rr := rds.append (hw t1 H1)
    refine ⟨by rw [← rr.length, List.length_append]; exact l1, xs ++ dfl, m1, t1, ss1, rr, ?_⟩
    have k1 : KE G W s (relD G) (call k (xs ++ dfl) m1) t1 H1 Q := KE.later ex kk
    cases e2 : call k (xs ++ dfl) m1 with
    | stuck => rw [e2] at k1; exact k1
    | exc _ _ _ => rw [e2] at k1; exact k1
    | ok _ _ => rw [e2] at k1; exact k1
theorem di_call0 (F : FnG X.prog X.w X.K X.mg X.base lev f fd ps (spG G call k n)) (hr : Room lev X.A) (hgd : X.A.guards = some []) (hg : Gl X x) (hm : X.mg x = some (.ref f)) (hk : PySem.W.keepIn X.K (.ref f) = true) (hb : Binds X.K fd ps ds) (hd : Vals ws ds) (tk : Takes X W)
    (hw : ∀ t H, RDs G t H dfl ws) (hn : dfl.length = n) (hdb : (x == ("__debug__" : Str)) = false) : PE X (.Call (.Name x p) [] [] pos) (RdE G W (mCall call k mNil dfl)) := by
  refine PE.imp (pe_callG0 F hr hgd hg hm hk hb hd tk hdb) fun s H Q ⟨r, μ, t, se, ss, kk⟩ => ?_
  have rr := hw t H
  refine ⟨by rw [List.nil_append, ← rr.length]; exact hn, dfl, μ, t, ss, by rw [List.nil_append]; exact rr, ?_⟩
  have k1 : KE G W s (relD G) (call k dfl μ) t H Q := kk
  cases e2 : call k dfl μ with
  | stuck => rw [e2] at k1; exact k1
  | exc _ _ _ => rw [e2] at k1; exact k1
  | ok _ _ => rw [e2] at k1; exact k1
end

/-! ### the making of a def's promise -/
/-- a body's end as a call's end -/
def fin : RS → R D
  | .nx _ m => .ok .non m
  | .ret d m => .ok d m
  | .exc k fs _ m => .exc k fs m
  | _ => .stuck
def startE (n : Nat) (ds : List D) : Env := ds.map some ++ List.replicate (n - ds.length) none
theorem se_start {G : Gx} {t : List Addr} {H : Hp} {N : List Str} {ds : List D} {vs : List V} (hj : ∀ s t H, G.J s t H) (r : RDs G t H ds vs) : SE G t H (startE N.length ds) (L2.start N vs) := by
  have hl := r.length
  refine ⟨by unfold startE L2.start; simp [hl], fun i d q => ?_, hj _ _ _⟩
  have hi : i < ds.length := by
    unfold startE at q
    by_cases hi : i < ds.length
    · exact hi
    · rw [List.getElem?_append_right (by simpa using hi), List.getElem?_replicate] at q
      split at q <;> cases q
  unfold startE at q
  rw [List.getElem?_append_left (by simpa using hi), List.getElem?_map] at q
  cases e : ds[i]? with
  | none => rw [e] at q; cases q
  | some a =>
    rw [e] at q; cases q
    obtain ⟨v, hv, rd⟩ := r.get e
    exact ⟨v, by unfold L2.start; rw [List.getElem?_append_left (by rw [List.length_map, ← hl]; exact hi), List.getElem?_map, hv]; rfl, rd⟩
section
variable {P : Program} {w : World} {K : PySem.W.Frag} {mg : Str → Option Value} {base : Heap}
theorem fn_ofG {lev : Nat} {f : Addr} {name qual : Str} {params : Arguments} {body : List Stmt} {scope : Scope} {dV kV doc pm cdv ct oc : Value} {an od : Option Addr} {osl : Array (Option Value)} {N ps : List Str} {sp : Sp}
    (lk : K.lookup f = some ⟨oc, od, .func (PySem.W.fnOf name qual params body scope dV kV doc pm an cdv ct), osl⟩) (hcd : PySem.W.codeIn K cdv qual = true) (S : FnScope N ps scope) (cnt : ∀ vs H Q E, sp vs H Q E → vs.length = ps.length)
    (hbody : ∀ (A : Around) (out : List PySem.Env) (s : Shared) (H : Hp) (vs : List V) (Q : VK) (E : XK), Room lev (A.deeper (envOfC qual scope s.heap.objs.size f cdv)) → A.guards = some [] → sp vs H Q E →
      ∃ t, PSs (cxOf (L2.CX P w) P w K mg base N qual scope f cdv A out s H E) body t ∧ t { nx := fun _ H' => Q .non H', rt := Q } (L2.start N vs) H) :
    FnG P w K mg base (lev + 1) f (PySem.W.fnOf name qual params body scope dV kV doc pm an cdv ct) ps sp := by
  refine ⟨cnt, fun A out s H args us vs Q E room gd e0 bt rv want => ?_⟩
  have inK : K.In s.heap := e0.mod.kin.keeps fun b o z => (e0.bs b o z).1
  have noL : s.heap.NoLimit := e0.mod.nolimit.keeps fun b o z => (e0.bs b o z).1
  have kinds : ∀ y ∈ ps.zip us, scope.names.lookup y.1 = some .local ∨ (scope.names.lookup y.1 = some .cell ∧ ((cellsFrom (s.heap.objs.size + 1) scope.names []).lookup y.1).isSome = true) := by
    rintro ⟨n, v⟩ hy
    refine (S.par n (List.of_mem_zip hy).1).imp id fun q => ⟨q, PySem.W.cellsFrom_some _ _ _ (.inl q)⟩
  refine codeAny_call_function room.depth (inK _ _ lk) rfl S.co S.gen rfl (PySem.W.codeRec_of inK hcd) (bt _ _ _ _ ?_)
  refine wpAny_newFunctionEnv_cells S.kind kinds fun env0 he s1 ic => ?_
  subst he
  refine ⟨noL.keeps ic.toInCall.keep, codeAny_func ?_⟩
  obtain ⟨t, ht, hq⟩ := hbody A out s H vs Q E (room.deeper _) gd want
  have J0 := inv_start (CX := L2.CX P w) (E := E) S room.hd e0 (cnt _ _ _ _ want) rv ic
  refine wpAny_mono (ht.run [] s1 (L2.start N vs) H _ J0 hq) (fun fl s2 hs => ?_) fun e s2 hs => hs
  have done : ∀ {σ2 : St} {H2 : Hp} {v : V} {u : Value}, Inv (cxOf (L2.CX P w) P w K mg base N qual scope f cdv A out s H E) [] σ2 H2 s2 → RelV v u → Q v H2 → CE out P w H s Q u s2 :=
    fun J r q => ⟨_, _, J.os, J.bare, J.base, J.hok, r, q⟩
  match fl, hs with
  | .ret u, ⟨v, σ2, H2, J, r, q⟩ => exact done J r q
  | .next, ⟨σ2, H2, J, q⟩ => exact done (v := V.non) (u := Value.none) J rfl q
  | .brk, ⟨_, _, _, q⟩ => exact False.elim q
  | .cont, ⟨_, _, _, q⟩ => exact False.elim q
/-- a def by its body's action -/
theorem fn_sm {G : Gx} {call : CallF} {k lev : Nat} {f : Addr} {name qual : Str} {params : Arguments} {body : List Stmt} {scope : Scope} {dV kV doc pm cdv ct oc : Value} {an od : Option Addr} {osl : Array (Option Value)} {N ps : List Str} {sm : SM}
    (hj : ∀ s t H, G.J s t H) (lk : K.lookup f = some ⟨oc, od, .func (PySem.W.fnOf name qual params body scope dV kV doc pm an cdv ct), osl⟩) (hcd : PySem.W.codeIn K cdv qual = true) (S : FnScope N ps scope)
    (hc : ∀ ds m, call k ds m = fin (sm (startE N.length ds) m))
    (hbody : ∀ (A : Around) (out : List PySem.Env) (s : Shared) (H : Hp) (E : XK), Room lev (A.deeper (envOfC qual scope s.heap.objs.size f cdv)) → A.guards = some [] →
      PSs (cxOf (L2.CX P w) P w K mg base N qual scope f cdv A out s H E) body (RdS G (fun c d _ H' => E c d H') sm)) :
    FnG P w K mg base (lev + 1) f (PySem.W.fnOf name qual params body scope dV kV doc pm an cdv ct) ps (spG G call k ps.length) := by
  refine fn_ofG lk hcd S (fun _ _ _ _ h => h.1) fun A out s H vs Q E room gd ⟨_, ds, μ, t, ss, rds, kk⟩ => ⟨_, hbody A out s H E room gd, startE N.length ds, μ, t, se_start hj rds, ss, ?_⟩
  rw [hc] at kk
  cases e : sm (startE N.length ds) μ with
  | nx r m => rw [e] at kk; exact fun s' H' t' ex _ ss' => kk .non H' t' ex ss' .non
  | ret d m => rw [e] at kk; exact kk
  | bk r m => rw [e] at kk; exact kk.elim
  | ct r m => rw [e] at kk; exact kk.elim
  | exc k fs r m => rw [e] at kk; exact fun cls da s' H' t' ex _ ss' rx => kk cls da H' t' ex ss' rx
  | stuck => rw [e] at kk; exact kk.elim
/-- what a body of the text lets out, its caller takes -/
theorem takes_cx {N : List Str} {qual : Str} {scope : Scope} {f : Addr} {cdv : Value} {A : Around} {out : List PySem.Env} {s : Shared} {H : Hp} {E : XK} (hf : (envOfC qual scope s.heap.objs.size f cdv).frame = some (envOfC qual scope s.heap.objs.size f cdv).locals) :
    Takes (cxOf (L2.CX P w) P w K mg base N qual scope f cdv A out s H E) (fun c d _ H' => E c d H') := takes_of (X := cxOf (L2.CX P w) P w K mg base N qual scope f cdv A out s H E) rfl hf rfl rfl
theorem owns_cx {N : List Str} {qual : Str} {scope : Scope} {f : Addr} {cdv : Value} {A : Around} {out : List PySem.Env} {s : Shared} {H : Hp} {E : XK} :
    PassesOwn (model (cxOf (L2.CX P w) P w K mg base N qual scope f cdv A out s H E).prog (cxOf (L2.CX P w) P w K mg base N qual scope f cdv A out s H E).w) (cxOf (L2.CX P w) P w K mg base N qual scope f cdv A out s H E).A (cxOf (L2.CX P w) P w K mg base N qual scope f cdv A out s H E).env (cxOf (L2.CX P w) P w K mg base N qual scope f cdv A out s H E).xe := passes_of rfl
end
end DI

set_option Elab.async false
set_option linter.all false
set_option maxRecDepth 100000
set_option maxHeartbeats 4000000
/-! DIP: name = [..] on one line, while. -/
namespace DI
open PySem PySem.Spec L2
open PyProof.Rows hiding St

section
variable {X : Cx} {G : Gx} {W : WX} {pos : Pos}
/-- name = [..] where the store is exchanged with the block's end: the list is frozen -/
theorem di_setLc {i : Nat} {y : Str} {py spos : Pos} {elt tg iter : Expr} {ifs : List Expr} {scope : Scope} {own : List (Str × Nat)} {mi : M ItD} {p : P} {mc : M Bool} {me : M D} (hc : X.calm = true) (hN : X.N.Nodup) (hy : X.N[i]? = some y) (hyl : X.env.scope.names.lookup y = some .local)
    (hsw : swapsWith (.ListComp elt [⟨tg, iter, ifs, 0⟩] scope pos) (some (.Name y py)) spos.line X.env = pure true) (hi : PI X tg iter (RdI G W mi)) (ok : BlkOk X.N X.env.scope scope own) (hp : ∀ i ∈ slotsP p, i ∈ own.map (·.2)) (hv : ∀ i ∈ own.map (·.2), G.fr i = true) (hfr : G.fr i = true)
    (hg : ∀ (s : Shared) (H : Hp) (C : Addr) (cl : List (Str × Addr)) (fp : List Addr), PG (X.blk s H scope (compEnvC scope cl C X.env) fp) tg (RdG G p)) (ht : ∀ (s : Shared) (H : Hp) (C : Addr) (cl : List (Str × Addr)) (fp : List Addr), PTs (X.blk s H scope (compEnvC scope cl C X.env) fp) ifs (RdT G W0 mc))
    (he : ∀ (s : Shared) (H : Hp) (C : Addr) (cl : List (Str × Addr)) (fp : List Addr), PE (X.blk s H scope (compEnvC scope cl C X.env) fp) elt (RdE G W0 me)) (hs : ∀ x, foldedSetIterable iter X.env x = pure x) :
    PS X (.Assign [.Name y py] (.ListComp elt [⟨tg, iter, ifs, 0⟩] scope pos) spos) (RdS G W (sAsg (.nm i) (mLc mi (own.map (·.2)) p mc me))) := by
  have base := ps_setLc hc hN hy hyl hsw hi ok hg ht he hs
  refine ⟨fun pins s σ H E I q => ?_⟩
  let E2 : Ends := { E with nx := fun σ' H' => ∃ p xs, H' p = some (.lst xs) ∧ ∀ o, E.nx σ' (upd H' p (.frz o (.lst xs))) }
  have q2 : tAsg (tLc (RdI G W mi) (RdG G p) (RdT G W0 mc) (RdE G W0 me) (own.map (·.2))) (gName i) E2 σ H := by
    obtain ⟨r, μ, t, se, ss, k⟩ := q
    refine lc_readsI (H1 := H) (Q := fun v H' => E.nx (σ.set i (some v)) H') (Q2 := fun v H' => gName i v σ H' E2.nx) (fun v H' z => ?_) hp hv (st_step (Q' := fun v H' => E.nx (σ.set i (some v)) H') se ss k fun d m1 v H1 t1 _ se1 ss1 rd k1 => KS.nx_ k1 (SE.set hfr se1 rd) ss1)
    obtain ⟨p, xs, rfl, e, z⟩ := z
    exact ⟨p, xs, e, z⟩
  refine thn (base.run pins s σ H E2 I q2) fun f s2 hs => ?_
  match f, hs with
  | .next, ⟨σ2, H2, J, p, xs, e, z⟩ =>
    obtain ⟨ob, J2⟩ := frz_lst J e
    exact ⟨σ2, _, J2, z ob⟩
  | .brk, hs => exact hs
  | .cont, hs => exact hs
  | .ret u, hs => exact hs
end

/-! ### while -/
def whN (c : M Bool) (b : SM) : Nat → SM
  | 0 => fun _ _ => .stuck
  | n + 1 => fun r m => .of r (c r m) fun k m1 => if k = true then (match b r m1 with
    | .nx r2 m2 => whN c b n r2 m2
    | .ct r2 m2 => whN c b n r2 m2
    | .bk r2 m2 => .nx r2 m2
    | x => x) else .nx r m1
open Classical in
noncomputable def sWhile (c : M Bool) (b : SM) : SM := fun r m => if h : ∃ n, whN c b n r m ≠ .stuck then whN c b (Classical.choose h) r m else .stuck
theorem whN_succ (c : M Bool) (b : SM) (n : Nat) (r : Env) (m : Sto) : whN c b (n + 1) r m = .of r (c r m) fun k m1 => if k = true then (match b r m1 with
    | .nx r2 m2 => whN c b n r2 m2
    | .ct r2 m2 => whN c b n r2 m2
    | .bk r2 m2 => .nx r2 m2
    | x => x) else .nx r m1 := rfl
theorem whN_up {c : M Bool} {b : SM} : ∀ {n : Nat} {r : Env} {m : Sto}, whN c b n r m ≠ .stuck → whN c b (n + 1) r m = whN c b n r m
  | 0, r, m, h => absurd rfl h
  | n + 1, r, m, h => by
    rw [whN_succ] at h
    rw [whN_succ c b (n + 1), whN_succ c b n]
    cases e : c r m with
    | stuck => rfl
    | exc k fs m1 => rfl
    | ok k m1 =>
      rw [e] at h
      simp only [RS.of] at h ⊢
      cases k with
      | false => rfl
      | true =>
        simp only [if_true] at h ⊢
        cases eb : b r m1 with
        | nx r2 m2 => rw [eb] at h; simp only at h ⊢; exact whN_up h
        | ct r2 m2 => rw [eb] at h; simp only at h ⊢; exact whN_up h
        | _ => rfl
theorem whN_le {c : M Bool} {b : SM} {n : Nat} {r : Env} {m : Sto} (h : whN c b n r m ≠ .stuck) : ∀ k, whN c b (n + k) r m = whN c b n r m
  | 0 => rfl
  | k + 1 => by
    have ih := whN_le h k
    rw [← Nat.add_assoc, whN_up (by rw [ih]; exact h), ih]
theorem sWhile_of {c : M Bool} {b : SM} {n : Nat} {r : Env} {m : Sto} {x : RS} (h : whN c b n r m = x) (hx : x ≠ .stuck) : sWhile c b r m = x := by
  have ex : ∃ n, whN c b n r m ≠ .stuck := ⟨n, by rw [h]; exact hx⟩
  unfold sWhile
  rw [dif_pos ex]
  have h2 := Classical.choose_spec ex
  have a := whN_le h2 n
  have b2 := whN_le (show whN c b n r m ≠ .stuck by rw [h]; exact hx) (Classical.choose ex)
  rw [Nat.add_comm] at a
  rw [← a, b2, h]
section
variable {X : Cx} {G : Gx} {W : WX} {pos : Pos}
theorem di_while {c : Expr} {body : List Stmt} {mc : M Bool} {b : SM} (hp : PassesOwn (model X.prog X.w) X.A X.env X.xe) (hc : PT X c (RdT G W mc)) (hb : PSs X body (RdS G W b)) : PS X (.While c body [] pos) (RdS G W (sWhile mc b)) := by
  refine PS.imp (ps_while hp hc hb) fun E s H ⟨r, μ, t, se, ss, k⟩ => ?_
  by_cases ex : ∃ n, whN mc b n r μ ≠ .stuck
  · have k0 : KS G W (whN mc b (Classical.choose ex) r μ) t H E := by
      unfold sWhile at k; rw [dif_pos ex] at k; exact k
    refine ⟨fun n σ H2 => ∃ r2 m2 t2, Stp t H t2 H2 ∧ SE G t2 H2 r2 σ ∧ SS G t2 H2 m2 ∧ KS G W (whN mc b n r2 m2) t2 H2 E, ⟨_, r, μ, t, Stp.refl _ _, se, ss, k0⟩, ?_⟩
    rintro n σ H2 ⟨r2, m2, t2, ex2, se2, ss2, k2⟩
    cases n with
    | zero => exact k2.elim
    | succ n =>
      rw [whN_succ] at k2
      refine st_step se2 ss2 k2 fun q m3 v H3 t3 ex3 se3 ss3 rd k3 => ?_
      cases rd
      cases q with
      | false => exact KS.nx_ k3 se3 ss3
      | true =>
        refine ⟨fun σ' H' => ∃ r4 m4 t4, Stp t H t4 H' ∧ SE G t4 H' r4 σ' ∧ SS G t4 H' m4 ∧ KS G W (whN mc b n r4 m4) t4 H' E, fun σ' H' z => ⟨n, Nat.lt_succ_self n, z⟩, r2, m3, t3, se3, ss3, ?_⟩
        simp only [if_true] at k3
        cases eb : b r2 m3 with
        | nx r4 m4 => rw [eb] at k3; exact fun s4 H4 t4 ex4 se4 ss4 => ⟨r4, m4, t4, (ex2.trans ex3).trans ex4, se4, ss4, k3.later ex4⟩
        | ct r4 m4 => rw [eb] at k3; exact fun s4 H4 t4 ex4 se4 ss4 => ⟨r4, m4, t4, (ex2.trans ex3).trans ex4, se4, ss4, k3.later ex4⟩
        | bk r4 m4 => rw [eb] at k3; exact k3
        | ret d m4 => rw [eb] at k3; exact k3
        | exc kk fs r4 m4 => rw [eb] at k3; exact k3
        | stuck => rw [eb] at k3; exact k3
  · unfold sWhile at k
    rw [dif_neg ex] at k
    exact k.elim
end
end DI

set_option Elab.async false
set_option linter.all false
set_option maxRecDepth 100000
set_option maxHeartbeats 4000000
/-! DIZ: zip(a, b) and zip(a, b, strict=True) of lists and tuples, mixed. -/
namespace DIZ
open PySem
/-- true: a list, false: a tuple -/
def AtI (k : Bool) (h : Heap) (p q : Addr) (i : Nat) : Prop := match k with
  | true => h.IsListIter p q i
  | false => h.IsTupleIter p q i
def AtS (k : Bool) (h : Heap) (q : Addr) (xs : Array Value) : Prop := match k with
  | true => h.IsList q xs
  | false => h.IsTuple q xs
theorem AtI.ob {k : Bool} {h : Heap} {p q : Addr} {i : Nat} (a : AtI k h p q i) : ∃ o, h.get? p = some o ∧ (∀ v, o.data ≠ .cell v) := by
  cases k with
  | true => obtain ⟨o, e, _, d⟩ := a; exact ⟨o, e, fun v z => by rw [d] at z; cases z⟩
  | false => obtain ⟨o, e, _, d⟩ := a; exact ⟨o, e, fun v z => by rw [d] at z; cases z⟩
theorem AtI.mv {k : Bool} {h h' : Heap} {p q : Addr} {i : Nat} (a : AtI k h p q i) (m : ∀ o, h.get? p = some o → h'.get? p = some o) : AtI k h' p q i := by
  cases k with
  | true => obtain ⟨o, e, c, d⟩ := a; exact ⟨o, m o e, c, d⟩
  | false => obtain ⟨o, e, c, d⟩ := a; exact ⟨o, m o e, c, d⟩
theorem AtS.mv {k : Bool} {h h' : Heap} {q : Addr} {xs : Array Value} (a : AtS k h q xs) (m : ∀ o, h.get? q = some o → h'.get? q = some o) : AtS k h' q xs := by
  cases k with
  | true => obtain ⟨o, e, c, d⟩ := a; exact ⟨o, m o e, c, d⟩
  | false => obtain ⟨o, e, c, d⟩ := a; exact ⟨o, m o e, c, d⟩
theorem AtS.lt {k : Bool} {h : Heap} {q : Addr} {xs : Array Value} (a : AtS k h q xs) : q < h.objs.size := by
  cases k with
  | true => obtain ⟨o, e, _⟩ := a; exact Heap.lt_size e
  | false => obtain ⟨o, e, _⟩ := a; exact Heap.lt_size e
/-- the zip object; sb: strict -/
abbrev Zp (sb : Bool) (h : Heap) (z ia oa : Addr) (f : Value) : Prop := h.get? z = some { cls := .type "zip", dict := none, data := .fields #[f, .bool false, .bool sb, .ref ia, .ref oa], slots := #[] }
section
variable {prog : Program} {w : World} {A : Around} {E : Value → Shared → Prop} {s : Shared}
theorem nx_item {k : Bool} {p q : Addr} {i : Nat} {xs : Array Value} {x : Value} {Q : Value → Shared → Prop} (a : AtI k s.heap p q i) (b : AtS k s.heap q xs) (hx : xs[i]? = some x)
    (hQ : ∀ h', AtI k h' p q (i + 1) → Heap.SameBut p s.heap h' → Q x { s with heap := h' }) : wpAny (model prog w) A (Builtin.SmallTypes.nextOf (.ref p)) Q E s := by
  cases k with
  | true => exact wpAny_nextOf_list_item a b hx hQ
  | false => exact RZ.nextOf_tuple_item a b hx hQ
theorem nx_end {k : Bool} {p q : Addr} {i : Nat} {xs : Array Value} {Q : Value → Shared → Prop} (hh : A.handled = none) (a : AtI k s.heap p q i) (b : AtS k s.heap q xs) (hx : xs[i]? = none)
    (hE : ∀ h' e, Heap.ExtBut p s.heap h' → (∃ o, h'.get? e = some o ∧ o.cls = .type "StopIteration") → E (.ref e) { s with heap := h' }) : wpAny (model prog w) A (Builtin.SmallTypes.nextOf (.ref p)) Q E s := by
  cases k with
  | true => exact wpAny_nextOf_list_end hh a b hx hE
  | false => exact RZ.nextOf_tuple_end hh a b hx hE
theorem ne_item {k : Bool} {p q : Addr} {i : Nat} {xs : Array Value} {x : Value} {Q : Option Value → Shared → Prop} (a : AtI k s.heap p q i) (b : AtS k s.heap q xs) (hx : xs[i]? = some x)
    (hQ : ∀ h', AtI k h' p q (i + 1) → Heap.SameBut p s.heap h' → Q (some x) { s with heap := h' }) : wpAny (model prog w) A (Builtin.SmallTypes.nextOrEnd (.ref p)) Q E s := by
  unfold Builtin.SmallTypes.nextOrEnd
  exact wpAny_bind (wpAny_attempt (nx_item a b hx fun h' a1 a2 => wpAny_pure (hQ h' a1 a2)))
theorem ne_end {k : Bool} {p q : Addr} {i : Nat} {xs : Array Value} {Q : Option Value → Shared → Prop} (hh : A.handled = none) (a : AtI k s.heap p q i) (b : AtS k s.heap q xs) (hx : xs[i]? = none)
    (hQ : ∀ h', Heap.ExtBut p s.heap h' → Q none { s with heap := h' }) : wpAny (model prog w) A (Builtin.SmallTypes.nextOrEnd (.ref p)) Q E s := by
  unfold Builtin.SmallTypes.nextOrEnd
  refine wpAny_bind (wpAny_attempt (nx_end hh a b hx fun h' e hk he => ?_))
  obtain ⟨o, ho, hc⟩ := he
  refine wpAny_bind (wpAny_isInstance (T := "StopIteration") (b := true) ⟨o, ho, hc⟩ isSubtype_stop ?_)
  exact wpAny_pure (hQ _ hk)
/-- one draw -/
theorem dr_item {sb k : Bool} {p q : Addr} {i : Nat} {xs : Array Value} {x : Value} {Q : Option Value → Shared → Prop} (a : AtI k s.heap p q i) (b : AtS k s.heap q xs) (hx : xs[i]? = some x)
    (hQ : ∀ h', AtI k h' p q (i + 1) → Heap.SameBut p s.heap h' → Q (some x) { s with heap := h' }) :
    wpAny (model prog w) A (if sb = true then Builtin.SmallTypes.nextOrEnd (.ref p) else Builtin.SmallTypes.nextOf (.ref p) >>= fun v => pure (some v)) Q E s := by
  cases sb with
  | true => rw [if_pos rfl]; exact ne_item a b hx hQ
  | false => rw [if_neg Bool.false_ne_true]; exact wpAny_bind (nx_item a b hx fun h' a1 a2 => wpAny_pure (hQ h' a1 a2))
/-- all apart -/
structure Ap (z ia oa p1 p2 q1 q2 : Addr) : Prop where
  nd : [z, ia, oa, p1, p2].Nodup
  q1 : q1 ∉ [z, oa, p1, p2]
  q2 : q2 ∉ [z, oa, p1, p2]
theorem keep2 {h h1 : Heap} {b c : Addr} {o : Obj} (hs : Heap.SameBut b h h1) (n : c ≠ b) (e : h.get? c = some o) : h1.get? c = some o := hs.extBut _ _ n e
theorem zip_item {sb k1 k2 : Bool} {z ia oa p1 p2 q1 q2 : Addr} {i : Nat} {xs ys : Array Value} {x y a b : Value} {Q : Value → Shared → Prop} (D : Ap z ia oa p1 p2 q1 q2)
    (hz : Zp sb s.heap z ia oa .none) (hi : IsPair s.heap ia (.ref p1) (.ref p2)) (ho : IsPair s.heap oa a b) (i1 : AtI k1 s.heap p1 q1 i) (i2 : AtI k2 s.heap p2 q2 i) (s1 : AtS k1 s.heap q1 xs) (s2 : AtS k2 s.heap q2 ys)
    (hx : xs[i]? = some x) (hy : ys[i]? = some y)
    (hQ : ∀ h', Zp sb h' z ia oa (rawInt s.heap.objs.size) → IsPair h' oa x y → AtI k1 h' p1 q1 (i + 1) → AtI k2 h' p2 q2 (i + 1) → IsPair h' s.heap.objs.size x y →
      (∀ c o, c ∉ [z, oa, p1, p2] → s.heap.get? c = some o → h'.get? c = some o) → Q (.ref s.heap.objs.size) { s with heap := h' }) :
    wpAny (model prog w) A (Builtin.«zip.__next__» ⟨[.ref z], []⟩) (fun fin s' => ∃ v, fin = .done (.ret v) ∧ Q v s') E s := by
  have nd := D.nd
  have m1 := D.q1
  have m2 := D.q2
  simp only [List.nodup_cons, List.mem_cons, List.not_mem_nil, or_false, not_or, List.nodup_nil, and_true, not_false_eq_true] at nd m1 m2
  obtain ⟨⟨n1, n2, n3, n4⟩, ⟨n5, n6, n7⟩, ⟨n8, n9⟩, n10⟩ := nd
  obtain ⟨u1, u2, u3, u4⟩ := m1
  obtain ⟨v1, v2, v3, v4⟩ := m2
  show wpAny _ _ (field (.ref z) 2 >>= _) _ _ _
  refine wpAny_bind (wpAny_field hz rfl (x := .bool sb) rfl ?_)
  show wpAny _ _ (field (.ref z) 3 >>= _) _ _ _
  refine wpAny_bind (wpAny_field hz rfl (x := .ref ia) rfl ?_)
  refine wpAny_bind (wpAny_seqItems hi rfl ?_)
  show wpAny _ _ (Builtin.SmallTypes.ownedTupleIsFree (.ref z) >>= _) _ _ _
  refine wpAny_bind ?_
  unfold Builtin.SmallTypes.ownedTupleIsFree
  refine wpAny_bind (wpAny_field hz rfl (x := .none) rfl (wpAny_pure ?_))
  simp only [if_true]
  have sbe : (Value.bool sb == Value.bool true) = sb := by cases sb <;> rfl
  simp only [sbe]
  refine wpAny_bind (wpAny_rule (wpAny_bind (wpAny_field hz rfl (x := .ref oa) rfl ?_)))
  refine wpAny_bind (wpAny_setField_rec hz (by simp) fun g1 za c1 => ?_)
  replace za : Zp sb g1 z ia oa .ellipsis := za
  refine wpAny_bind ?_
  simp only [List.zipIdx_cons, List.zipIdx_nil, List.forIn_cons, List.forIn_nil]
  refine wpAny_bind (wpAny_bind (wpAny_onRaise ?_))
  show wpAny _ _ (if sb = true then Builtin.SmallTypes.nextOrEnd (.ref p1) else Builtin.SmallTypes.nextOf (.ref p1) >>= fun v => pure (some v)) _ _ _
  refine dr_item (i1.mv fun o e => keep2 c1 (Ne.symm n3) e) (s1.mv fun o e => keep2 c1 u1 e) hx fun g2 a1 c2 => ?_
  have o2 : IsPair g2 oa a b := keep2 c2 n8 (keep2 c1 (Ne.symm n2) ho)
  refine wpAny_bind (wpAny_seqItems o2 rfl (wpAny_bind (wpAny_updateSeq_pair o2 fun g3 o3 c3 => ?_)))
  replace o3 : IsPair g3 oa x b := o3
  refine wpAny_bind (wpAny_letGo (wpAny_pure ?_))
  refine wpAny_bind (wpAny_bind (wpAny_onRaise ?_))
  show wpAny _ _ (if sb = true then Builtin.SmallTypes.nextOrEnd (.ref p2) else Builtin.SmallTypes.nextOf (.ref p2) >>= fun v => pure (some v)) _ _ _
  refine dr_item (i2.mv fun o e => keep2 c3 (Ne.symm n9) (keep2 c2 (Ne.symm n10) (keep2 c1 (Ne.symm n4) e))) (s2.mv fun o e => keep2 c3 v2 (keep2 c2 v3 (keep2 c1 v1 e))) hy fun g4 b1 c4 => ?_
  have o4 : IsPair g4 oa x b := keep2 c4 n9 o3
  refine wpAny_bind (wpAny_seqItems o4 rfl (wpAny_bind (wpAny_updateSeq_pair o4 fun g5 o5 c5 => ?_)))
  replace o5 : IsPair g5 oa x y := o5
  refine wpAny_bind (wpAny_letGo (wpAny_pure (wpAny_pure ?_)))
  refine wpAny_bind (wpAny_seqItems o5 rfl (wpAny_bind (wpAny_newTuple ?_)))
  have sz : g5.objs.size = s.heap.objs.size := by rw [c5.1, c4.1, c3.1, c2.1, c1.1]
  have zb : Zp sb g5 z ia oa .ellipsis := keep2 c5 n2 (keep2 c4 n4 (keep2 c3 n2 (keep2 c2 n3 za)))
  have kk : ∀ c o, c ∉ [z, oa, p1, p2] → s.heap.get? c = some o → g5.get? c = some o := fun c o n e => by
    simp only [List.mem_cons, List.not_mem_nil, or_false, not_or] at n
    exact keep2 c5 n.2.1 (keep2 c4 n.2.2.2 (keep2 c3 n.2.1 (keep2 c2 n.2.2.1 (keep2 c1 n.1 e))))
  have i1' : AtI k1 g5 p1 q1 (i + 1) := a1.mv fun o e => keep2 c5 (Ne.symm n8) (keep2 c4 n10 (keep2 c3 (Ne.symm n8) e))
  have i2' : AtI k2 g5 p2 q2 (i + 1) := b1.mv fun o e => keep2 c5 (Ne.symm n9) e
  have lz : z < g5.objs.size := Heap.lt_size zb
  show wpAny _ _ (Builtin.SmallTypes.ownedTupleHandOut (.ref z) (.ref g5.objs.size) >>= _) _ _ _
  refine wpAny_bind ?_
  unfold Builtin.SmallTypes.ownedTupleHandOut
  have zc : Zp sb (g5.push { cls := .type "tuple", data := .seq #[x, y] }) z ia oa .ellipsis := Heap.get?_push_of_some _ zb
  refine wpAny_bind (wpAny_setField_rec zc (by simp) fun g7 zd c7 => ?_)
  replace zd : Zp sb g7 z ia oa (rawInt g5.objs.size) := zd
  refine wpAny_setField_rec zd (by simp) fun g8 ze c8 => ?_
  replace ze : Zp sb g8 z ia oa (rawInt g5.objs.size) := ze
  have up : ∀ {c : Addr} {o : Obj}, c ≠ z → g5.get? c = some o → g8.get? c = some o := fun n e => keep2 c8 n (keep2 c7 n (Heap.get?_push_of_some _ e))
  have nw : IsPair g8 g5.objs.size x y := keep2 c8 (Nat.ne_of_gt lz) (keep2 c7 (Nat.ne_of_gt lz) (Heap.get?_push_size _ rfl))
  rw [sz] at ze nw
  refine wpAny_pure ⟨_, rfl, ?_⟩
  show Q (.ref g5.objs.size) _
  rw [sz]
  exact hQ g8 ze (up (Ne.symm n2) o5) (i1'.mv fun o e => up (Ne.symm n3) e) (i2'.mv fun o e => up (Ne.symm n4) e) nw fun c o n e => up (fun q => n (by simp [q])) (kk c o n e)
theorem wpAny_of_defeq {α : Type} {t u : Sem α} {Q : α → Shared → Prop} (e : u = t) (h : wpAny (model prog w) A t Q E s) : wpAny (model prog w) A u Q E s := by rw [e]; exact h
theorem stop_ {α : Type} {Q : α → Shared → Prop} (hh : A.handled = none) (hE : ∀ h' e, (∀ c o, s.heap.get? c = some o → h'.get? c = some o) → (∃ o, h'.get? e = some o ∧ o.cls = .type "StopIteration") → E (.ref e) { s with heap := h' }) :
    wpAny (model prog w) A (Builtin.SmallTypes.stopIteration : Sem α) Q E s := by
  unfold Builtin.SmallTypes.stopIteration
  refine wpAny_bind ?_
  simp only [newExc, newTuple]
  refine wpAny_bind (wpAny_newObj_type ?_ (by size_fits))
  refine wpAny_bind (m := firstArgMember _ _) (wpAny_of_eq (a := Value.none) (by first | rfl | (simp only [firstArgMember]; rfl)) (wpAny_newObj_type ?_ (by size_fits)))
  simp only [raiseNew]
  refine wpAny_bind (wpAny_handled ?_)
  rw [hh]
  refine wpAny_bind (wpAny_pure (wpAny_throw (hE _ _ (fun c o e => Heap.get?_push_of_some _ (Heap.get?_push_of_some _ e)) ⟨_, Heap.get?_push_size _ rfl, rfl⟩)))
theorem zip_end {sb k1 k2 : Bool} {z ia oa p1 p2 q1 q2 : Addr} {i : Nat} {xs ys : Array Value} {a b : Value} {Q : Fin → Shared → Prop} (hh : A.handled = none) (D : Ap z ia oa p1 p2 q1 q2)
    (hz : Zp sb s.heap z ia oa .none) (hi : IsPair s.heap ia (.ref p1) (.ref p2)) (ho : IsPair s.heap oa a b) (i1 : AtI k1 s.heap p1 q1 i) (i2 : AtI k2 s.heap p2 q2 i) (s1 : AtS k1 s.heap q1 xs) (s2 : AtS k2 s.heap q2 ys)
    (hend : (xs[i]? = none ∧ (sb = true → ys[i]? = none)) ∨ (sb = false ∧ ys[i]? = none))
    (hE : ∀ h' e, (∀ c o, c ∉ [z, oa, p1, p2] → s.heap.get? c = some o → h'.get? c = some o) → (∃ o, h'.get? e = some o ∧ o.cls = .type "StopIteration") → E (.ref e) { s with heap := h' }) :
    wpAny (model prog w) A (Builtin.«zip.__next__» ⟨[.ref z], []⟩) Q E s := by
  have nd := D.nd
  have m1 := D.q1
  have m2 := D.q2
  simp only [List.nodup_cons, List.mem_cons, List.not_mem_nil, or_false, not_or, List.nodup_nil, and_true, not_false_eq_true] at nd m1 m2
  obtain ⟨⟨n1, n2, n3, n4⟩, ⟨n5, n6, n7⟩, ⟨n8, n9⟩, n10⟩ := nd
  obtain ⟨u1, u2, u3, u4⟩ := m1
  obtain ⟨v1, v2, v3, v4⟩ := m2
  show wpAny _ _ (field (.ref z) 2 >>= _) _ _ _
  refine wpAny_bind (wpAny_field hz rfl (x := .bool sb) rfl ?_)
  show wpAny _ _ (field (.ref z) 3 >>= _) _ _ _
  refine wpAny_bind (wpAny_field hz rfl (x := .ref ia) rfl ?_)
  refine wpAny_bind (wpAny_seqItems hi rfl ?_)
  show wpAny _ _ (Builtin.SmallTypes.ownedTupleIsFree (.ref z) >>= _) _ _ _
  refine wpAny_bind ?_
  unfold Builtin.SmallTypes.ownedTupleIsFree
  refine wpAny_bind (wpAny_field hz rfl (x := .none) rfl (wpAny_pure ?_))
  simp only [if_true]
  have sbe : (Value.bool sb == Value.bool true) = sb := by cases sb <;> rfl
  simp only [sbe]
  refine wpAny_bind (wpAny_rule (wpAny_bind (wpAny_field hz rfl (x := .ref oa) rfl ?_)))
  refine wpAny_bind (wpAny_setField_rec hz (by simp) fun g1 za c1 => ?_)
  replace za : Zp sb g1 z ia oa .ellipsis := za
  refine wpAny_bind ?_
  simp only [List.zipIdx_cons, List.zipIdx_nil, List.forIn_cons, List.forIn_nil]
  refine wpAny_bind (wpAny_bind (wpAny_onRaise ?_))
  show wpAny _ _ (if sb = true then Builtin.SmallTypes.nextOrEnd (.ref p1) else Builtin.SmallTypes.nextOf (.ref p1) >>= fun v => pure (some v)) _ _ _
  have j1 : AtI k1 g1 p1 q1 i := i1.mv fun o e => keep2 c1 (Ne.symm n3) e
  have j2 : AtS k1 g1 q1 xs := s1.mv fun o e => keep2 c1 u1 e
  cases hx : xs[i]? with
  | none =>
    cases sb with
    | false =>
      rw [if_neg Bool.false_ne_true]
      refine wpAny_bind (nx_end hh j1 j2 hx fun g2 e c2 he => ?_)
      obtain ⟨oe, hoe, hce⟩ := he
      have zb : Zp false g2 z ia oa .ellipsis := c2 _ _ n3 za
      have ez : e ≠ z := fun q => by subst q; rw [zb] at hoe; cases hoe; simp at hce
      refine wpAny_setField_rec zb (by simp) fun g3 _ c3 => hE g3 e (fun c o n x => ?_) ⟨oe, keep2 c3 ez hoe, hce⟩
      simp only [List.mem_cons, List.not_mem_nil, or_false, not_or] at n
      exact keep2 c3 n.1 (c2 _ _ n.2.2.1 (keep2 c1 n.1 x))
    | true =>
      rw [if_pos rfl]
      have hy : ys[i]? = none := by
        rcases hend with h | h
        · exact h.2 rfl
        · exact absurd h.1 (by simp)
      refine ne_end hh j1 j2 hx fun g2 c2 => ?_
      have zb : Zp true g2 z ia oa .ellipsis := c2 _ _ n3 za
      refine wpAny_bind (wpAny_setField_rec zb (by simp) fun g3 _ c3 => ?_)
      have t1 : AtI k2 g3 p2 q2 i := i2.mv fun o e => keep2 c3 (Ne.symm n4) (c2 _ _ (Ne.symm n10) (keep2 c1 (Ne.symm n4) e))
      have t2 : AtS k2 g3 q2 ys := s2.mv fun o e => keep2 c3 v1 (c2 _ _ v3 (keep2 c1 v1 e))
      refine wpAny_bind ?_
      refine wpAny_bind ?_
      simp only [List.drop_succ_cons, List.drop_zero, List.zipIdx_cons, List.zipIdx_nil, List.forIn_cons, List.forIn_nil]
      refine wpAny_bind (wpAny_bind (ne_end hh t1 t2 hy fun g4 c4 => ?_))
      rw [if_neg (by simp)]
      refine wpAny_pure (wpAny_pure (wpAny_bind (wpAny_rule (stop_ hh fun g5 e k5 he => hE g5 e (fun c o n x => ?_) he))))
      simp only [List.mem_cons, List.not_mem_nil, or_false, not_or] at n
      exact k5 c o (c4 _ _ n.2.2.2 (keep2 c3 n.1 (c2 _ _ n.2.2.1 (keep2 c1 n.1 x))))
  | some x =>
    obtain ⟨rfl, hy⟩ : sb = false ∧ ys[i]? = none := by
      rcases hend with h | h
      · rw [hx] at h; cases h.1
      · exact h
    refine dr_item j1 j2 hx fun g2 a1 c2 => ?_
    have o2 : IsPair g2 oa a b := keep2 c2 n8 (keep2 c1 (Ne.symm n2) ho)
    refine wpAny_bind (wpAny_seqItems o2 rfl (wpAny_bind (wpAny_updateSeq_pair o2 fun g3 o3 c3 => ?_)))
    refine wpAny_bind (wpAny_letGo (wpAny_pure ?_))
    refine wpAny_bind (wpAny_bind (wpAny_onRaise ?_))
    show wpAny _ _ (Builtin.SmallTypes.nextOf (.ref p2) >>= fun v => pure (some v)) _ _ _
    refine wpAny_bind (nx_end hh (i2.mv fun o e => keep2 c3 (Ne.symm n9) (keep2 c2 (Ne.symm n10) (keep2 c1 (Ne.symm n4) e))) (s2.mv fun o e => keep2 c3 v2 (keep2 c2 v3 (keep2 c1 v1 e))) hy fun g4 e c4 he => ?_)
    obtain ⟨oe, hoe, hce⟩ := he
    have zb : Zp false g4 z ia oa .ellipsis := c4 _ _ n4 (keep2 c3 n2 (keep2 c2 n3 za))
    have ez : e ≠ z := fun q => by subst q; rw [zb] at hoe; cases hoe; simp at hce
    refine wpAny_setField_rec zb (by simp) fun g5 _ c5 => hE g5 e (fun c o n x => ?_) ⟨oe, keep2 c5 ez hoe, hce⟩
    simp only [List.mem_cons, List.not_mem_nil, or_false, not_or] at n
    exact keep2 c5 n.1 (c4 _ _ n.2.2.2 (keep2 c3 n.2.1 (keep2 c2 n.2.2.1 (keep2 c1 n.1 x))))
end
end DIZ

set_option Elab.async false
set_option linter.all false
set_option maxRecDepth 100000
set_option maxHeartbeats 4000000
/-! DIY: the making of a zip, its turns. -/
namespace DIZ
open PySem
open Sem (wp)
section
variable {prog : Program} {w : World} {A : Around} {E : Value → Shared → Prop} {s : Shared}
theorem pn_item {sb k1 k2 : Bool} {z ia oa p1 p2 q1 q2 : Addr} {i : Nat} {xs ys : Array Value} {x y a b : Value} {Q : Option Value → Shared → Prop} (D : Ap z ia oa p1 p2 q1 q2)
    (hz : Zp sb s.heap z ia oa .none) (hi : IsPair s.heap ia (.ref p1) (.ref p2)) (ho : IsPair s.heap oa a b) (i1 : AtI k1 s.heap p1 q1 i) (i2 : AtI k2 s.heap p2 q2 i) (s1 : AtS k1 s.heap q1 xs) (s2 : AtS k2 s.heap q2 ys)
    (hx : xs[i]? = some x) (hy : ys[i]? = some y)
    (hQ : ∀ h', Zp sb h' z ia oa (rawInt s.heap.objs.size) → IsPair h' oa x y → AtI k1 h' p1 q1 (i + 1) → AtI k2 h' p2 q2 (i + 1) → IsPair h' s.heap.objs.size x y →
      (∀ c o, c ∉ [z, oa, p1, p2] → s.heap.get? c = some o → h'.get? c = some o) → Q (some (.ref s.heap.objs.size)) { s with heap := h' }) : wpAny (model prog w) A (pyNext (.ref z)) Q E s := by
  have ty : s.TypeIs (.ref z) "zip" := ⟨_, hz, rfl⟩
  unfold pyNext
  exact wpAny_bind (wpAny_attempt (wpAny_callSpecial?_slot (name := Str.ofString "__next__") ty F.slot_zip_next (wpAny_call_entry F.slot_zip_next ty F.entry_zip_next
    (zip_item D hz hi ho i1 i2 s1 s2 hx hy fun h' a1 a2 a3 a4 a5 a6 => wpAny_pure (hQ h' a1 a2 a3 a4 a5 a6)) (F.args_zip_next_1 _))))
theorem pn_end {sb k1 k2 : Bool} {z ia oa p1 p2 q1 q2 : Addr} {i : Nat} {xs ys : Array Value} {a b : Value} {Q : Option Value → Shared → Prop} (hh : A.handled = none) (D : Ap z ia oa p1 p2 q1 q2)
    (hz : Zp sb s.heap z ia oa .none) (hi : IsPair s.heap ia (.ref p1) (.ref p2)) (ho : IsPair s.heap oa a b) (i1 : AtI k1 s.heap p1 q1 i) (i2 : AtI k2 s.heap p2 q2 i) (s1 : AtS k1 s.heap q1 xs) (s2 : AtS k2 s.heap q2 ys)
    (hend : (xs[i]? = none ∧ (sb = true → ys[i]? = none)) ∨ (sb = false ∧ ys[i]? = none)) (hQ : ∀ h', (∀ c o, c ∉ [z, oa, p1, p2] → s.heap.get? c = some o → h'.get? c = some o) → Q none { s with heap := h' }) : wpAny (model prog w) A (pyNext (.ref z)) Q E s := by
  have ty : s.TypeIs (.ref z) "zip" := ⟨_, hz, rfl⟩
  unfold pyNext
  refine wpAny_bind (wpAny_attempt (wpAny_callSpecial?_slot (name := Str.ofString "__next__") ty F.slot_zip_next (wpAny_call_entry F.slot_zip_next ty F.entry_zip_next
    (zip_end hh D hz hi ho i1 i2 s1 s2 hend fun h' e kp he => ?_) (F.args_zip_next_1 _))))
  obtain ⟨o, e1, e2⟩ := he
  exact wpAny_bind (wpAny_isInstance (T := "StopIteration") (b := true) ⟨o, e1, e2⟩ isSubtype_stop (wpAny_pure (hQ _ kp)))
theorem own_go {sb : Bool} {elts : List Expr} {x1} {pos : Pos} {z ia oa T : Addr} {Q : Unit → Shared → Prop} (hz : Zp sb s.heap z ia oa (rawInt T))
    (hQ : ∀ h', Zp sb h' z ia oa .none → Heap.SameBut z s.heap h' → Q () { s with heap := h' }) : wpAny (model prog w) A (letOwnedTupleGo (.Tuple elts x1 pos) (.ref z) (.ref T)) Q E s := by
  unfold letOwnedTupleGo
  refine wpAny_bind (wpAny_load hz ?_)
  simp only
  rw [if_pos (by simp)]
  refine wpAny_bind (wpAny_rule ?_)
  show wpAny _ _ (setField (.ref z) 0 .none) Q E s
  exact wpAny_setField_rec hz (by simp) fun h' a b => hQ h' a b
theorem it_self {sb : Bool} {z ia oa : Addr} {f : Value} {Q : Value → Shared → Prop} (hz : Zp sb s.heap z ia oa f) (h : Q (.ref z) s) : wpAny (model prog w) A (pyIter (.ref z)) Q E s := by
  have ty : s.TypeIs (.ref z) "zip" := ⟨_, hz, rfl⟩
  refine wpAny_pyIter_slot ty F.slot_zip_iter (wpAny_call_entry F.slot_zip_iter ty F.entry_zip_iter ?_ (F.args_zip_iter_1 _))
  show wpAny _ _ (ret (.ref z)) _ _ s
  exact wpAny_pure ⟨_, rfl, "zip", _, ty, F.slot_zip_next.lookup, h⟩
/-- the iterator of a list, of a tuple -/
def itO (k : Bool) (q : Addr) : Obj := match k with
  | true => { cls := .type "list_iterator", data := .fields #[.ref q, .int 0 0] }
  | false => { cls := .type "tuple_iterator", data := .fields #[.ref q, .int 0 0] }
theorem iter_of {k : Bool} {q : Addr} {xs : Array Value} {Q : Value → Shared → Prop} (a : AtS k s.heap q xs) (h : Q (.ref s.heap.objs.size) { s with heap := s.heap.push (itO k q) }) : wpAny (model prog w) A (pyIter (.ref q)) Q E s := by
  cases k with
  | true => exact wpAny_pyIter_list a h
  | false => exact wpAny_pyIter_tuple a h
theorem at_of {k : Bool} {h : Heap} {p q : Addr} (e : h.get? p = some (itO k q)) : AtI k h p q 0 := by
  cases k with
  | true => exact ⟨_, e, rfl, rfl⟩
  | false => exact ⟨_, e, rfl, rfl⟩
/-- the heap behind the making -/
abbrev zH (sb k1 k2 : Bool) (h : Heap) (q1 q2 : Addr) : Heap :=
  ((((h.push (itO k1 q1)).push (itO k2 q2)).push { cls := .type "tuple", data := .seq #[.ref h.objs.size, .ref (h.push (itO k1 q1)).objs.size] }).push { cls := .type "tuple", data := .seq #[.none, .none] }).push
    { cls := .type "zip", data := .fields #[.none, .bool false, .bool sb, .ref ((h.push (itO k1 q1)).push (itO k2 q2)).objs.size, .ref (((h.push (itO k1 q1)).push (itO k2 q2)).push { cls := .type "tuple", data := .seq #[.ref h.objs.size, .ref (h.push (itO k1 q1)).objs.size] }).objs.size] }
abbrev zA (k1 k2 : Bool) (h : Heap) (q1 q2 : Addr) : Addr := ((((h.push (itO k1 q1)).push (itO k2 q2)).push { cls := .type "tuple", data := .seq #[.ref h.objs.size, .ref (h.push (itO k1 q1)).objs.size] }).push { cls := .type "tuple", data := .seq #[.none, .none] }).objs.size
theorem made0 (k1 k2 : Bool) (q1 q2 : Addr) (xs ys : Array Value) : Meets (Builtin.«zip.__new__» ⟨[.type "zip", .ref q1, .ref q2], []⟩) (fun _ R s => AtS k1 s.heap q1 xs ∧ AtS k2 s.heap q2 ys ∧
      R (.ok (.ret (.ref (zA k1 k2 s.heap q1 q2)))) { s with heap := zH false k1 k2 s.heap q1 q2 }) :=
  .of_wp fun prog w A R s h => by
    obtain ⟨hp, g, d, tk, os⟩ := s
    obtain ⟨a1, a2, h⟩ := h
    have hsub := sub_zip
    have b1 : AtS k1 (Shared.heap ⟨hp, g, d, tk, os⟩) q1 xs := a1
    have b2 : AtS k2 (Shared.heap ⟨hp.push (itO k1 q1), g, d, tk, os⟩) q2 ys := AtS.mv a2 fun o e => Heap.get?_push_of_some _ e
    wp_walk using iter_of b1, iter_of b2
    exact ⟨_, rfl, h⟩
theorem made1 (k1 k2 : Bool) (q1 q2 : Addr) (xs ys : Array Value) : Meets (Builtin.«zip.__new__» ⟨[.type "zip", .ref q1, .ref q2], [("strict", .bool true)]⟩) (fun _ R s => AtS k1 s.heap q1 xs ∧ AtS k2 s.heap q2 ys ∧
      R (.ok (.ret (.ref (zA k1 k2 s.heap q1 q2)))) { s with heap := zH true k1 k2 s.heap q1 q2 }) :=
  .of_wp fun prog w A R s h => by
    obtain ⟨hp, g, d, tk, os⟩ := s
    obtain ⟨a1, a2, h⟩ := h
    have hsub := sub_zip
    have b1 : AtS k1 (Shared.heap ⟨hp, g, d, tk, os⟩) q1 xs := a1
    have b2 : AtS k2 (Shared.heap ⟨hp.push (itO k1 q1), g, d, tk, os⟩) q2 ys := AtS.mv a2 fun o e => Heap.get?_push_of_some _ e
    have kn : (("strict" : Str) != "strict") = false := by decide
    wp_walk using iter_of b1, iter_of b2
    exact ⟨_, rfl, h⟩
theorem tc1 (a b : Value) : checkTypeCall "zip" ⟨[a, b], [("strict", .bool true)]⟩ = pure () := by kernel_rfl
theorem nc1 (a b : Value) : checkBuiltinCall "zip.__new__" ⟨[.type "zip", a, b], [("strict", .bool true)]⟩ = pure () := by kernel_rfl
theorem ob1 (self a b : Value) : Meets (Builtin.«object.__init__» ⟨[self, a, b], [("strict", .bool true)]⟩) (fun _ R s => s.TypeIs self "zip" ∧ R (.ok (.ret .none)) s) := by
  refine Meets.of_wp fun prog w A R s hs => ?_
  obtain ⟨hT, hq⟩ := hs
  have hl := F.called_zip.init.lookup
  have hm := F.called_zip.made
  have hne : (some "zip.__new__" != some "object.__new__") = true := by decide
  repeat (any_goals (first | assumption | wp_step))
  exact ⟨_, rfl, hq⟩
theorem ao1 (a b c : Value) : argsOk "object.__init__" ⟨[a, b, c], [("strict", .bool true)]⟩ := by
  unfold argsOk; rw [signature?_of (id := "object.__init__") (n := ['_', '_', 't', 'i', 'n', 'i', '_', '_']) (o := ['t', 'c', 'e', 'j', 'b', 'o']) (by kernel_rfl) F.owner_object]
  kernel_rfl
/-- the call of zip with strict=True -/
theorem call1 {k1 k2 : Bool} {q1 q2 : Addr} {xs ys : Array Value} {Q : Value → Shared → Prop} (a1 : AtS k1 s.heap q1 xs) (a2 : AtS k2 s.heap q2 ys)
    (h : Q (.ref (zA k1 k2 s.heap q1 q2)) { s with heap := zH true k1 k2 s.heap q1 q2 }) : wpAny (model prog w) A (call (.type "zip") [.ref q1, .ref q2] [("strict", .bool true)]) Q E s := by
  have ft := F.called_zip
  obtain ⟨c, tl, hmro⟩ := ft.mro
  have hmade := ft.made
  have hsub := ft.sub
  refine wpAny_call (codeAny_of_tree ?_)
  show wpAny _ _ (callAny (.type "zip") _) _ _ _
  refine wpAny_pure ⟨Code.quiet_builtin _ (by decide +kernel), codeAny_builtin F.entry_type_call ?_⟩
  rw [Around.under_plain (weight_type_call_type "zip" [.ref q1, .ref q2] [("strict", .bool true)]) (units_type_call_type "zip" [.ref q1, .ref q2] [("strict", .bool true)])]
  have h1 := ft.notType
  have h2 := ft.canCreate
  repeat (any_goals (first | assumption | wp_step))
  have ty : ({ s with heap := zH true k1 k2 s.heap q1 q2 } : Shared).TypeIs (.ref (zA k1 k2 s.heap q1 q2)) "zip" := ⟨_, Heap.get?_push_size _ rfl, rfl⟩
  refine codeAny_mono (codeAny_call_builtin ft.plain F.entry_zip_new (wpAny_of_eq (nc1 _ _) ((made1 k1 k2 q1 q2 xs ys) prog w A.in1 (wants (fun v s2 => v = .ref (zA k1 k2 s.heap q1 q2) ∧ s2 = { s with heap := zH true k1 k2 s.heap q1 q2 }) E) s ⟨a1, a2, rfl, rfl⟩))) fun r s2 hr => ?_
  match r, hr with
  | .error e, hr => exact hr
  | .ok .next, hr => exact hr.elim
  | .ok .brk, hr => exact hr.elim
  | .ok .cont, hr => exact hr.elim
  | .ok (.ret obj), hr =>
    obtain ⟨rfl, rfl⟩ := hr
    have hli := ft.init.lookup
    have hbi := ft.init.bind (.ref (zA k1 k2 s.heap q1 q2))
    repeat (any_goals (first | assumption | wp_step))
    refine codeAny_mono (codeAny_call_builtin ft.init.plain F.entry_object_init (ft.init.check _ _ _ _ _ _ _ _ ty (ao1 _ _ _) ((ob1 _ _ _) prog w A.in1 (wants (fun r s3 => r = .none ∧ Q (.ref (zA k1 k2 s.heap q1 q2)) s3) E) _ ⟨ty, rfl, h⟩))) fun r3 s3 hr3 => ?_
    match r3, hr3 with
    | .error e, hr3 => exact hr3
    | .ok .next, hr3 => exact hr3.elim
    | .ok .brk, hr3 => exact hr3.elim
    | .ok .cont, hr3 => exact hr3.elim
    | .ok (.ret v), hr3 =>
      obtain ⟨rfl, hq⟩ := hr3
      repeat (any_goals (first | assumption | wp_step))
theorem call0 {k1 k2 : Bool} {q1 q2 : Addr} {xs ys : Array Value} {Q : Value → Shared → Prop} (a1 : AtS k1 s.heap q1 xs) (a2 : AtS k2 s.heap q2 ys)
    (h : Q (.ref (zA k1 k2 s.heap q1 q2)) { s with heap := zH false k1 k2 s.heap q1 q2 }) : wpAny (model prog w) A (call (.type "zip") [.ref q1, .ref q2]) Q E s :=
  callType_new F.called_zip (by decide) (F.typeCall_zip_2 _ _) (F.newCall_zip_2 _ _) (fun obj => F.args_object_init_3 obj _ _) F.entry_zip_new (made0 k1 k2 q1 q2 xs ys) ⟨a1, a2, ⟨_, Heap.get?_push_size _ rfl, rfl⟩, h⟩
end
end DIZ

set_option Elab.async false
set_option linter.all false
set_option maxRecDepth 100000
set_option maxHeartbeats 4000000
/-! DIX: zip as a walked thing. -/
namespace DIZ
open PySem PySem.Spec L2
open PyProof.Rows hiding St
def SqK (k : Bool) (K : PySem.W.Frag) (H : Hp) (a : Addr) (xs : List V) : Prop := match k with
  | true => SqL K H a xs
  | false => SqT K H a xs
def Zend (sb : Bool) (i : Nat) (xs ys : List V) : Prop := (xs[i]? = none ∧ (sb = true → ys[i]? = none)) ∨ (sb = false ∧ ys[i]? = none)
def ItZ (sb k1 k2 : Bool) (K : PySem.W.Frag) (a b : Addr) : It :=
  ⟨fun i H => ∃ (xs ys : List V) (x y : V), SqK k1 K H a xs ∧ SqK k2 K H b ys ∧ xs[i]? = some x ∧ ys[i]? = some y,
    fun i H v H' => ∃ T x y, v = .ref T ∧ H T = none ∧ H' = upd H T (.tup [x, y]) ∧ (∀ xs, SqK k1 K H a xs → xs[i]? = some x) ∧ ∀ ys, SqK k2 K H b ys → ys[i]? = some y,
    fun i H => ∃ xs ys : List V, SqK k1 K H a xs ∧ SqK k2 K H b ys ∧ Zend sb i xs ys⟩
section
variable {X : Cx} {pins : List (Addr × Obj)} {σ : L2.St} {H : Hp} {s : Shared}
theorem sq_at {k : Bool} {a : Addr} {xs : List V} (I : Inv X pins σ H s) (h : SqK k X.K H a xs) : ∃ its : List Value, Vals xs its ∧ AtS k s.heap a its.toArray := by
  cases k with
  | true => obtain ⟨its, r, p, _⟩ := I.list h; exact ⟨its, r, p.isList⟩
  | false => obtain ⟨its, r, p, _⟩ := I.tuple h; exact ⟨its, r, p⟩
theorem sq_inj {k : Bool} {a : Addr} {xs ys : List V} (I : Inv X pins σ H s) (h : SqK k X.K H a xs) (g : SqK k X.K H a ys) : xs = ys := by
  cases k with
  | true => exact I.list_inj h g
  | false => exact I.tuple_inj h g
theorem none_of {xs : List V} {its : List Value} {i : Nat} (r : Vals xs its) (h : xs[i]? = none) : its.toArray[i]? = none := by
  have := r.length
  rw [List.getElem?_eq_none_iff] at h
  simp; omega
end
theorem turnZ {P : Program} {w : World} {K : PySem.W.Frag} {elts : List Expr} {kk : Nat} {tpos : Pos} {sb k1 k2 : Bool} {a b z ia oa p1 p2 : Addr} (D : Ap z ia oa p1 p2 a b) :
    Turn P w K (.Tuple elts kk tpos) (ItZ sb k1 k2 K a b) [z, ia, oa, p1, p2] z (fun i h => Zp sb h z ia oa .none ∧ IsPair h ia (.ref p1) (.ref p2) ∧ (∃ x y, IsPair h oa x y) ∧ AtI k1 h p1 a i ∧ AtI k2 h p2 b i) where
  mem := by simp
  obj := fun i h st c hc => by
    obtain ⟨hz, hi, ⟨x, y, ho⟩, h1, h2⟩ := st
    simp only [List.mem_cons, List.not_mem_nil, or_false] at hc
    rcases hc with rfl | rfl | rfl | rfl | rfl
    · exact ⟨_, hz, fun v q => nomatch q⟩
    · exact ⟨_, hi, fun v q => nomatch q⟩
    · exact ⟨_, ho, fun v q => nomatch q⟩
    · exact h1.ob
    · exact h2.ob
  keep := fun i h h' st k => by
    obtain ⟨hz, hi, ⟨x, y, ho⟩, h1, h2⟩ := st
    exact ⟨k z (by simp) _ hz, k ia (by simp) _ hi, ⟨x, y, k oa (by simp) _ ho⟩, h1.mv fun o q => k p1 (by simp) o q, h2.mv fun o q => k p2 (by simp) o q⟩
  item := by
    intro X hP hw hK hc i pins s σ H E I hf st hg
    subst hP hw hK
    obtain ⟨hz, hi, ⟨x0, y0, ho⟩, h1, h2⟩ := st
    obtain ⟨xs, ys, x, y, sx, sy, hx, hy⟩ := hg
    obtain ⟨its, rv, pa⟩ := sq_at I sx
    obtain ⟨its2, rv2, pb⟩ := sq_at I sy
    obtain ⟨u, hu, ru⟩ := rv.get hx
    obtain ⟨u2, hu2, ru2⟩ := rv2.get hy
    have zl : z < s.heap.objs.size := Heap.lt_size hz
    have lts : ∀ c ∈ [z, ia, oa, p1, p2], c < s.heap.objs.size := fun c hcm => by
      simp only [List.mem_cons, List.not_mem_nil, or_false] at hcm
      rcases hcm with rfl | rfl | rfl | rfl | rfl
      · exact zl
      · exact Heap.lt_size hi
      · exact Heap.lt_size ho
      · obtain ⟨o, e, _⟩ := h1.ob; exact Heap.lt_size e
      · obtain ⟨o, e, _⟩ := h2.ob; exact Heap.lt_size e
    refine pn_item D hz hi ho h1 h2 pa pb (x := u) (y := u2) (by simpa using hu) (by simpa using hu2) fun g z' o' i1' i2' nw kp => ?_
    refine ⟨_, rfl, own_go (s := { s with heap := g }) z' fun g2 z2 sb2 => ?_⟩
    have nw2 : g2.get? s.heap.objs.size = some { cls := .type "tuple", data := .seq #[u, u2] } := keep2 sb2 (Nat.ne_of_gt zl) nw
    have ok : ObjOk X.prog X.w (upd H s.heap.objs.size (.tup [x, y])) g2 s.heap.objs.size (.tup [x, y]) := ⟨by show 2 ≤ sizeLine; decide, [u, u2], .cons ru (.cons ru2 .nil), ⟨_, nw2, rfl, _, rfl⟩⟩
    have kp2 : ∀ c o, c ∉ [z, ia, oa, p1, p2] → s.heap.get? c = some o → g2.get? c = some o := fun c o n e => by
      simp only [List.mem_cons, List.not_mem_nil, or_false, not_or] at n
      exact keep2 sb2 n.1 (kp c o (by simp only [List.mem_cons, List.not_mem_nil, or_false, not_or]; exact ⟨n.1, n.2.2.1, n.2.2.2.1, n.2.2.2.2⟩) e)
    have I2 : Inv X pins σ (upd H s.heap.objs.size (.tup [x, y])) { s with heap := g2 } := I.turnedNew (t' := s.toks) (ch := [z, ia, oa, p1, p2]) (fun c o hb q => kp2 c o hb q) hf (Nat.le_refl _) ok
    have nd := D.nd
    simp only [List.nodup_cons, List.mem_cons, List.not_mem_nil, or_false, not_or, List.nodup_nil, and_true, not_false_eq_true] at nd
    obtain ⟨⟨n1, n2, n3, n4⟩, ⟨n5, n6, n7⟩, ⟨n8, n9⟩, n10⟩ := nd
    refine ⟨.ref s.heap.objs.size, _, I2, rfl, ⟨_, x, y, rfl, I.hok.fresh (Nat.le_refl _), rfl, fun l hl => by rw [sq_inj I hl sx]; exact hx, fun l hl => by rw [sq_inj I hl sy]; exact hy⟩, ⟨z2, ?_, ⟨u, u2, ?_⟩, ?_, ?_⟩, fun c hcm => ?_⟩
    · exact keep2 sb2 (Ne.symm n1) (kp _ _ (by simp only [List.mem_cons, List.not_mem_nil, or_false, not_or]; exact ⟨Ne.symm n1, n5, n6, n7⟩) hi)
    · exact keep2 sb2 (Ne.symm n2) o'
    · exact i1'.mv fun o q => keep2 sb2 (Ne.symm n3) q
    · exact i2'.mv fun o q => keep2 sb2 (Ne.symm n4) q
    · rw [upd_ne (Nat.ne_of_lt (lts c hcm))]
      exact (hf c hcm).1
  done := by
    intro X hP hw hK hc i pins s σ H E I hf st hg
    subst hP hw hK
    obtain ⟨hz, hi, ⟨x0, y0, ho⟩, h1, h2⟩ := st
    obtain ⟨xs, ys, sx, sy, hend⟩ := hg
    obtain ⟨its, rv, pa⟩ := sq_at I sx
    obtain ⟨its2, rv2, pb⟩ := sq_at I sy
    refine pn_end (I.ok.hd hc) D hz hi ho h1 h2 pa pb (hend.imp (fun q => ⟨none_of rv q.1, fun e => none_of rv2 (q.2 e)⟩) fun q => ⟨q.1, none_of rv2 q.2⟩) fun g kp => ⟨rfl, I.turnedL (t' := s.toks) (ch := [z, ia, oa, p1, p2]) (fun c o hb q => kp c o (fun n => hb ?_) q) hf⟩
    simp only [List.mem_cons, List.not_mem_nil, or_false] at n ⊢
    rcases n with n | n | n | n
    · exact .inl n
    · exact .inr (.inr (.inl n))
    · exact .inr (.inr (.inr (.inl n)))
    · exact .inr (.inr (.inr (.inr n)))
  self := fun A i s Q E st h => it_self st.1 h
theorem cw_kw {M : Model} {A : Around} {E : Value → Shared → Prop} {s : Shared} {pos : Pos} {T : String} {args : List (Bool × Sem Value)} {kws : List (Option Str × Sem Value)} {Q : Value → Shared → Prop} (np : args.any (·.1) = false) (nk : kws.any (·.1.isNone) = false)
    (h : wpAny M A (evalArgs (.type T) true args kws) (fun a s1 => wpAny M A (call (.type T) ([] ++ a.pos) a.kw) Q E s1) E s) : wpAny M A (callWith pos (.type T) [] args kws) Q E s := by
  unfold callWith
  refine wpAny_bind (wpAny_holding (wpAny_mono h (fun a s1 z => wpAny_bind (wpAny_standAt ?_)) fun _ _ y => y))
  simp only [np, nk, Bool.or_false]
  refine wpAny_bind (wpAny_pure (wpAny_bind (wpAny_mono z (fun r s2 hr => wpAny_bind (wpAny_holding (wpAny_point (wpAny_pure hr)))) fun _ _ y => y)))
def iZ (sb : Bool) (K : PySem.W.Frag) (ta : TA) : TI := fun σ H R => ta σ H fun vs H1 => ∃ a b k1 k2 xs ys, vs = [.ref a, .ref b] ∧ SqK k1 K H1 a xs ∧ SqK k2 K H1 b ys ∧ R (ItZ sb k1 k2 K a b) H1
section
variable {X : Cx} {e e2 : Expr} {ta : TA} {p pos tpos : Pos} {elts : List Expr} {kk : Nat}
theorem Ap.of {z ia oa p1 p2 q1 q2 : Addr} (D : PySem.ZipApart z ia oa p1 p2 q1 q2) : Ap z ia oa p1 p2 q1 q2 :=
  ⟨by simp [D.TIz.symm, D.TOz.symm, D.i1z.symm, D.i2z.symm, D.TITO, D.TIi1, D.TIi2, D.TOi1, D.TOi2, D.i12], by simp [D.l1z, D.l1TO, D.l1i1, D.l1i2], by simp [D.l2z, D.l2TO, D.l2i1, D.l2i2]⟩
theorem pie_z {pins : List (Addr × Obj)} {σ : L2.St} {H1 : Hp} {s1 : Shared} {sb k1 k2 : Bool} {a b : Addr} {xs ys : List V} {its its2 : List Value} {R : It → Hp → Prop} (I1 : Inv X pins σ H1 s1) (pa : AtS k1 s1.heap a its.toArray) (pb : AtS k2 s1.heap b its2.toArray)
    (q : R (ItZ sb k1 k2 X.K a b) H1) : wpAny (model X.prog X.w) X.A (pyIter (.ref (zA k1 k2 s1.heap a b))) (PIE X pins σ (.Tuple elts kk tpos) R) X.xe { s1 with heap := zH sb k1 k2 s1.heap a b } := by
  have w1 : (s1.heap.push (itO k1 a)).objs.size = s1.heap.objs.size + 1 := Heap.size_push ..
  have w2 : ((s1.heap.push (itO k1 a)).push (itO k2 b)).objs.size = s1.heap.objs.size + 2 := by rw [Heap.size_push, w1]
  have w3 : (((s1.heap.push (itO k1 a)).push (itO k2 b)).push { cls := .type "tuple", data := .seq #[.ref s1.heap.objs.size, .ref (s1.heap.push (itO k1 a)).objs.size] }).objs.size = s1.heap.objs.size + 3 := by rw [Heap.size_push, w2]
  have w4 : zA k1 k2 s1.heap a b = s1.heap.objs.size + 4 := by show ((((s1.heap.push (itO k1 a)).push (itO k2 b)).push _).push _).objs.size = _; rw [Heap.size_push, w3]
  have g5 : (zH sb k1 k2 s1.heap a b).get? (zA k1 k2 s1.heap a b) = some _ := Heap.get?_push_size _ rfl
  have g4 : (zH sb k1 k2 s1.heap a b).get? (((s1.heap.push (itO k1 a)).push (itO k2 b)).push { cls := .type "tuple", data := .seq #[.ref s1.heap.objs.size, .ref (s1.heap.push (itO k1 a)).objs.size] }).objs.size = some _ := Heap.get?_push_of_some _ (Heap.get?_push_size _ rfl)
  have g3 : (zH sb k1 k2 s1.heap a b).get? ((s1.heap.push (itO k1 a)).push (itO k2 b)).objs.size = some _ := Heap.get?_push_of_some _ (Heap.get?_push_of_some _ (Heap.get?_push_size _ rfl))
  have fr1 : (itO k1 a).isFreed = false := by cases k1 <;> rfl
  have fr2 : (itO k2 b).isFreed = false := by cases k2 <;> rfl
  have g2 : (zH sb k1 k2 s1.heap a b).get? (s1.heap.push (itO k1 a)).objs.size = some (itO k2 b) := Heap.get?_push_of_some _ (Heap.get?_push_of_some _ (Heap.get?_push_of_some _ (Heap.get?_push_size _ fr2)))
  have g1 : (zH sb k1 k2 s1.heap a b).get? s1.heap.objs.size = some (itO k1 a) := Heap.get?_push_of_some _ (Heap.get?_push_of_some _ (Heap.get?_push_of_some _ (Heap.get?_push_of_some _ (Heap.get?_push_size _ fr1))))
  have kp : ∀ c o, s1.heap.get? c = some o → (zH sb k1 k2 s1.heap a b).get? c = some o := fun c o z => Heap.get?_push_of_some _ (Heap.get?_push_of_some _ (Heap.get?_push_of_some _ (Heap.get?_push_of_some _ (Heap.get?_push_of_some _ z))))
  rw [w4] at g5 ⊢
  rw [w3] at g5 g4
  rw [w2] at g5 g3
  rw [w1] at g3 g2
  have la := pa.lt
  have lb := pb.lt
  refine it_self (f := .none) g5 ?_
  have I2 : Inv X pins σ H1 { s1 with heap := zH sb k1 k2 s1.heap a b } := I1.kept (t' := s1.toks) kp
  refine ⟨s1.heap.objs.size + 4, [s1.heap.objs.size + 4, s1.heap.objs.size + 2, s1.heap.objs.size + 3, s1.heap.objs.size, s1.heap.objs.size + 1], _, ItZ sb k1 k2 X.K a b, H1, rfl, I2, turnZ (sb := sb) (k1 := k1) (k2 := k2) (Ap.of (PySem.W.ktu_apart s1.heap.objs.size a b la lb)), ⟨g5, g3, ⟨_, _, g4⟩, at_of g1, at_of g2⟩, fun c hc => ?_, q⟩
  have hle : s1.heap.objs.size ≤ c := by
    simp only [List.mem_cons, List.not_mem_nil, or_false] at hc
    rcases hc with rfl | rfl | rfl | rfl | rfl
    · exact Nat.le_add_right _ _
    · exact Nat.le_add_right _ _
    · exact Nat.le_add_right _ _
    · exact Nat.le_refl _
    · exact Nat.le_add_right _ _
  exact I1.fpOk hle (I1.hok.fresh hle)
theorem pi_z0 (hg : Gl X "zip") (hm : X.mg "zip" = none) (ha : PA X [e, e2] ta) (hs : starEach [e, e2] X.env = (false, eval e X.env) :: starEach [e2] X.env) (hpl : (backTo pos (starEach [e2] X.env)).any (·.1) = false) :
    PI X (.Tuple elts kk tpos) (.Call (.Name "zip" p) [e, e2] [] pos) (iZ false X.K ta) := by
  refine ⟨fun pins s σ H R I h => ?_⟩
  refine Call_ (ld_blt I hg hm PyProof.Rows.boot_zip (PyProof.Rows.callWith_type1 (thn (ha.run pos pins s σ H _ I h) fun us s1 ⟨vs, H1, I1, r1, q1⟩ => ?_) hs hpl))
  obtain ⟨a, b, k1, k2, xs, ys, rfl, sa, sb, q1⟩ := q1
  obtain ⟨its, rv, pa⟩ := sq_at I1 sa
  obtain ⟨its2, rv2, pb⟩ := sq_at I1 sb
  obtain ⟨u, v, rfl, ru, rv⟩ := r1.two
  cases ru; cases rv
  exact call0 pa pb (pie_z (xs := xs) (ys := ys) I1 pa pb q1)
theorem pi_z1 {kp p3 : Pos} {j : Nat} (hg : Gl X "zip") (hm : X.mg "zip" = none) (ha : PA X [e, e2] ta) (hs : starEach [e, e2] X.env = (false, eval e X.env) :: starEach [e2] X.env) (hpl : (backTo pos (starEach [e2] X.env)).any (·.1) = false) :
    PI X (.Tuple elts kk tpos) (.Call (.Name "zip" p) [e, e2] [⟨some "strict", .Constant (.bool true) j p3, kp⟩] pos) (iZ true X.K ta) := by
  refine ⟨fun pins s σ H R I h => ?_⟩
  have hA := ha.run pos pins s σ H _ I h
  refine wpAny_Call_Name_kw (ld_blt I hg hm PyProof.Rows.boot_zip (cw_kw ?_ rfl ?_))
  · rw [hs]; show (false || (backTo pos (starEach [e2] X.env)).any (·.1)) = false; rw [hpl]; rfl
  · rw [hs] at hA ⊢
    refine PyProof.Rows.evalArgs_kwB rfl (thn hA fun us s1 z => ?_)
    obtain ⟨vs, H1, I1, r1, q1⟩ := z
    refine PyProof.Rows.kws_cons (Constant_bool (PyProof.Rows.kws_nil ?_))
    obtain ⟨a, b, k1, k2, xs, ys, rfl, sa, sb, q1⟩ := q1
    obtain ⟨its, rv, pa⟩ := sq_at I1 sa
    obtain ⟨its2, rv2, pb⟩ := sq_at I1 sb
    obtain ⟨u, v, rfl, ru, rv⟩ := r1.two
    cases ru; cases rv
    exact call1 pa pb (pie_z (xs := xs) (ys := ys) I1 pa pb q1)
end
end DIZ

set_option Elab.async false
set_option linter.all false
set_option maxRecDepth 100000
set_option maxHeartbeats 4000000
/-! DIW: zip as an action. -/
namespace DI
open PySem PySem.Spec L2 DIZ
open PyProof.Rows hiding St

def seqD : D → Option (Bool × List D)
  | .lst xs => some (true, xs)
  | .tup xs => some (false, xs)
  | _ => none
def zipD (xs ys : List D) : List D := List.zipWith (fun x y => .tup [x, y]) xs ys
def zipI (sb : Bool) (ds : List D) : Option ItD := match ds with
  | [d, e] => match seqD d, seqD e with
    | some (_, xs), some (_, ys) => if sb = true → xs.length = ys.length then some ⟨zipD xs ys, none⟩ else none
    | _, _ => none
  | _ => none
def mItZ (sb : Bool) (a : M (List D)) : M ItD := fun r m => (a r m).bind fun ds m1 => match zipI sb ds with
  | some it => .ok it m1
  | none => .stuck
section
variable {X : Cx} {G : Gx} {W : WX} {pos : Pos}
theorem seq_sq {t : List Addr} {H : Hp} {d : D} {v : V} {k : Bool} {xs : List D} (r : RD G t H d v) (e : seqD d = some (k, xs)) : ∃ a vs, v = .ref a ∧ (∀ H', Ext H H' → SqK k G.K H' a vs) ∧ RDs G t H xs vs := by
  cases r with
  | tup sq q => cases e; exact ⟨_, _, rfl, fun H' ex => rd_of ex sq, q⟩
  | lst sq q => cases e; exact ⟨_, _, rfl, fun H' ex => (sqF_of ex sq).l, q⟩
  | _ => cases e
theorem zip_at {xs ys : List D} {i : Nat} {d : D} (h : (zipD xs ys)[i]? = some d) : ∃ x y, xs[i]? = some x ∧ ys[i]? = some y ∧ d = .tup [x, y] := by
  unfold zipD at h
  rw [List.getElem?_zipWith] at h
  cases e1 : xs[i]? with
  | none => rw [e1] at h; simp at h
  | some x =>
    cases e2 : ys[i]? with
    | none => rw [e1, e2] at h; simp at h
    | some y => rw [e1, e2] at h; simp at h; exact ⟨x, y, rfl, rfl, h.symm⟩
theorem iter_zip {t1 : List Addr} {H1 : Hp} {sb k1 k2 : Bool} {a b : Addr} {xs ys : List D} {vs us : List V} (s1 : ∀ H', Ext H1 H' → SqK k1 G.K H' a vs) (s2 : ∀ H', Ext H1 H' → SqK k2 G.K H' b us) (r1 : RDs G t1 H1 xs vs) (r2 : RDs G t1 H1 ys us)
    (hs : sb = true → xs.length = ys.length) : IterOf G t1 H1 ⟨zipD xs ys, none⟩ (ItZ sb k1 k2 G.K a b) := fun i H t m ex ss _ => by
  have l1 := r1.length
  have l2 := r2.length
  have q1 := s1 H ex.ex
  have q2 := s2 H ex.ex
  refine ⟨fun hi => ⟨vs, us, q1, q2, ?_⟩, fun d hd => ?_⟩
  · have hi : min xs.length ys.length ≤ i := by simpa [zipD] using hi
    by_cases hx : vs.length ≤ i
    · refine .inl ⟨List.getElem?_eq_none hx, fun e => List.getElem?_eq_none ?_⟩
      have := hs e
      omega
    · refine .inr ⟨?_, List.getElem?_eq_none (by omega)⟩
      cases sb with
      | false => rfl
      | true => have := hs rfl; omega
  · obtain ⟨x, y, hx, hy, rfl⟩ := zip_at hd
    obtain ⟨v, hv, rv⟩ := r1.get hx
    obtain ⟨u, hu, ru⟩ := r2.get hy
    refine ⟨⟨vs, us, v, u, q1, q2, hv, hu⟩, fun z H' yl => ?_⟩
    obtain ⟨T, v', u', rfl, hT, rfl, f1, f2⟩ := yl
    have e1 := f1 vs q1
    rw [hv] at e1; cases e1
    have e2 := f2 us q2
    rw [hu] at e2; cases e2
    have st : Stp t H t (upd H T (.tup [v, u])) := Stp.fresh hT
    have ex2 := ex.trans st
    exact ⟨st, ss.new hT, .tup (.inl (.inl upd_same)) (.cons (rv.mono ex2.le ex2.ex) (.cons (ru.mono ex2.le ex2.ex) .nil))⟩
theorem zip_read (hK : G.K = X.K) {sb : Bool} {ms : M (List D)} {s : L2.St} {H : Hp} {Q : It → Hp → Prop} (h : RdI G W (mItZ sb ms) s H Q) : iZ sb X.K (RdA G W ms) s H Q := by
  obtain ⟨r, μ, t, se, ss, k⟩ := h
  refine ⟨r, μ, t, se, ss, ?_⟩
  unfold mItZ at k
  cases e1 : ms r μ with
  | stuck => rw [e1] at k; exact k
  | exc kk fs m => rw [e1] at k; exact k
  | ok ds m =>
    rw [e1] at k
    simp only [R.bind] at k
    intro v H1 t1 ex ss1 rd
    cases e2 : zipI sb ds with
    | none => rw [e2] at k; exact k.elim
    | some it =>
      rw [e2] at k
      unfold zipI at e2
      split at e2
      · split at e2
        · rename_i d e _ _ k1 xs k2 ys h1 h2
          split at e2
          · rename_i c
            cases e2
            obtain ⟨w1, w2, rfl, q, q2⟩ := RDs.two rd
            obtain ⟨a, vs, rfl, sa, ra⟩ := seq_sq q h1
            obtain ⟨b, us, rfl, sb2, rb⟩ := seq_sq q2 h2
            rw [← hK]
            exact ⟨a, b, k1, k2, vs, us, rfl, sa _ (Ext.refl _), sb2 _ (Ext.refl _), k _ H1 t1 ex ss1 (iter_zip sa sb2 ra rb c)⟩
          · cases e2
        · cases e2
      · cases e2
theorem di_itZ0 (hK : G.K = X.K) {e e2 : Expr} {p tpos : Pos} {elts : List Expr} {kk : Nat} {ms : M (List D)} (hg : Gl X "zip") (hm : X.mg "zip" = none) (ha : PA X [e, e2] (RdA G W ms)) (hs : starEach [e, e2] X.env = (false, eval e X.env) :: starEach [e2] X.env) (hpl : (backTo pos (starEach [e2] X.env)).any (·.1) = false) :
    PI X (.Tuple elts kk tpos) (.Call (.Name "zip" p) [e, e2] [] pos) (RdI G W (mItZ false ms)) := PI.imp (pi_z0 hg hm ha hs hpl) fun s H Q h => zip_read hK h
theorem di_itZ1 (hK : G.K = X.K) {e e2 : Expr} {p tpos kp p3 : Pos} {j : Nat} {elts : List Expr} {kk : Nat} {ms : M (List D)} (hg : Gl X "zip") (hm : X.mg "zip" = none) (ha : PA X [e, e2] (RdA G W ms)) (hs : starEach [e, e2] X.env = (false, eval e X.env) :: starEach [e2] X.env) (hpl : (backTo pos (starEach [e2] X.env)).any (·.1) = false) :
    PI X (.Tuple elts kk tpos) (.Call (.Name "zip" p) [e, e2] [⟨some "strict", .Constant (.bool true) j p3, kp⟩] pos) (RdI G W (mItZ true ms)) := PI.imp (pi_z1 hg hm ha hs hpl) fun s H Q h => zip_read hK h
end
end DI

set_option Elab.async false
set_option linter.all false
set_option maxRecDepth 100000
set_option maxHeartbeats 4000000
/-! DIV: a, *b = t, t a tuple. -/
namespace DIV
open PySem
section
variable {prog : Program} {w : World} {A : Around} {E : Value → Shared → Prop} {s : Shared}
theorem walksFrom (hh : A.handled = none) (I ax : Addr) (hne : ax ≠ I) (items : Array Value) (i : Nat) (hi : i ≤ items.size) :
    WalksS prog w A I [I, ax] [I] (fun a b => a = b) (items.size - i) (fun j v => items[i + j]? = some v) (fun j s => s.heap.IsTupleIter I ax (i + j) ∧ s.heap.IsTuple ax items) where
  sub := fun b hb => by simp at hb; simp [hb]
  grefl := fun _ => rfl
  gtrans := fun _ _ _ a b => a.trans b
  frame := fun _ s h' tk st _ hk => ⟨st.1.at fun o e => hk I (by simp) o e, st.2.at fun o e => hk ax (by simp) o e⟩
  item := fun j s Q E hj st hQ => by
    have hx : i + j < items.size := by omega
    refine wpAny_pyNext_tuple_item st.1 st.2 (x := items[i + j]) (by simp [hx]) fun h' a b => hQ _ { s with heap := h' } (by simp [hx]) ⟨a, st.2.extBut b.extBut hne⟩ ⟨fun c o hc e => b.extBut c o (fun z => hc (by simp [z])) e, rfl, rfl, rfl, Nat.le_refl _⟩
  done := fun s Q E st hQ => wpAny_pyNext_tuple_end hh st.1 st.2 (by simp; omega) fun h' b => hQ { s with heap := h' } ⟨fun c o hc e => b c o (fun z => hc (by simp [z])) e, rfl, rfl, rfl, Nat.le_refl _⟩
  self := fun _ _ _ _ st hQ => wpAny_pyIter_tupleiter st.1 hQ
theorem items_are {items acc : Array Value} {i : Nat} (hi : i ≤ items.size) (a : ItemsOf (fun j v => items[i + j]? = some v) acc (items.size - i)) : acc.toList = items.toList.drop i := by
  refine List.ext_getElem? fun j => ?_
  rw [List.getElem?_drop, Array.getElem?_toList, Array.getElem?_toList]
  by_cases hj : j < acc.size
  · have h1 := a.2 j acc[j] (by simp [hj])
    rw [h1]; simp [hj]
  · have h2 := a.1
    rw [Array.getElem?_eq_none (by omega), Array.getElem?_eq_none (by omega)]
theorem unpack_star {t : Addr} {items : Array Value} {i : Nat} {Q : List Value → Shared → Prop} (hh : A.handled = none) (ht : s.heap.IsTuple t items) (hi : i ≤ items.size) (hl : items.size ≤ sizeLine)
    (hQ : ∀ h' tk L, (∀ b o, s.heap.get? b = some o → h'.get? b = some o) → s.heap.get? L = none → h'.get? L = some { cls := .type "list", data := .seq (items.toList.drop i).toArray } → Q (items.toList.take i ++ [.ref L]) { s with heap := h', toks := tk }) :
    wpAny (model prog w) A (unpackItems (.ref t) (i + 1) (some i)) Q E s := by
  have hne : t ≠ s.heap.objs.size := by obtain ⟨o, e, _⟩ := ht; exact Nat.ne_of_lt (Heap.lt_size e)
  have ht' : PyProof.Rows.IsTup s.heap t items := ht
  unfold unpackItems
  refine wpAny_bind ?_
  unfold notIterableAtAll
  refine wpAny_bind (wpAny_specialOf ht'.typeIs PyProof.Rows.slot_tuple_iter.lookup (wpAny_pure ?_))
  simp only [Bool.false_eq_true, if_false]
  refine wpAny_bind (wpAny_holding (PyProof.Rows.iter_tuple ht' ?_))
  refine wpAny_bind (wpAny_holding (PyProof.Rows.draw_tuple hne i 0 _ _ ⟨_, Heap.get?_push_size _ rfl, rfl, rfl⟩ (ht'.push _) (by omega) fun h1 it1 sb1 => ?_))
  rw [List.drop_zero]
  have lt : (List.take i items.toList).length = i := by rw [List.length_take]; simp; omega
  rw [if_neg (by rw [lt]; omega)]
  have t1 : h1.IsTuple t items := (ht'.push _).extBut sb1.extBut hne
  have it1 : h1.IsTupleIter s.heap.objs.size t (i + 0) := by
    have : (0 + i : Nat) = i + 0 := by omega
    rw [← this]; exact it1
  have z1 : t < h1.objs.size := by obtain ⟨o, e, _⟩ := t1; exact Heap.lt_size e
  have z2 : s.heap.objs.size < h1.objs.size := by obtain ⟨o, e, _⟩ := it1; exact Heap.lt_size e
  refine wpAny_bind (wpAny_holding (wpAny_collect_iter (T := "tuple_iterator") (.inr (.inr (.inr rfl))) (walksFrom (A := A.in1) hh s.heap.objs.size t hne items i hi) (fun j s st => by obtain ⟨o, e, c, _⟩ := st.1; exact ⟨o, e, c⟩) ⟨it1, t1⟩ (fun b hb => ?_) (by simp) (fun s2 acc mv ia => ?_) (by omega)))
  · simp only [List.mem_cons, List.not_mem_nil, or_false] at hb
    rcases hb with rfl | rfl
    · exact z2
    · exact z1
  · rw [items_are hi ia]
    rw [if_neg (by omega)]
    have ee : (items.toList.drop i).length - (i + 1 - 1 - i) = (items.toList.drop i).length := by omega
    simp only [ee, List.take_length, List.drop_length, List.append_nil]
    refine wpAny_bind (wpAny_newList (wpAny_pure ?_) (by rw [List.length_drop]; simp; omega))
    obtain ⟨m1, m2, m3, m4, m5⟩ := mv
    obtain ⟨a1, a2, a3, a4, a5⟩ := s2
    have e2 : s.gens = a2 := m2
    have e3 : a3 = s.drawn := m3
    have e5 : a5 = s.os := m4
    subst e2 e3 e5
    have kp : ∀ b o, s.heap.get? b = some o → a1.get? b = some o := fun b o e => by
      have nb : b ≠ s.heap.objs.size := Nat.ne_of_lt (Heap.lt_size e)
      exact m1 b o (by simpa using nb) (sb1.extBut b o nb (Heap.get?_push_of_some _ e))
    refine hQ (a1.push _) a4 a1.objs.size (fun b o e => Heap.get?_push_of_some _ (kp b o e)) ?_ (Heap.get?_push_size _ rfl)
    cases e : s.heap.get? a1.objs.size with
    | none => rfl
    | some o => exact absurd (Heap.lt_size (kp _ o e)) (Nat.lt_irrefl _)
theorem unpack_starM {t : Addr} {items : Array Value} {i af : Nat} {Q : List Value → Shared → Prop} (hh : A.handled = none) (ht : s.heap.IsTuple t items) (hi0 : i + af ≤ items.size) (hl : items.size ≤ sizeLine)
    (hQ : ∀ h' tk L, (∀ b o, s.heap.get? b = some o → h'.get? b = some o) → s.heap.get? L = none → h'.get? L = some { cls := .type "list", data := .seq ((items.toList.drop i).take (items.size - i - af)).toArray } → Q (items.toList.take i ++ [.ref L] ++ (items.toList.drop i).drop (items.size - i - af)) { s with heap := h', toks := tk }) :
    wpAny (model prog w) A (unpackItems (.ref t) (i + 1 + af) (some i)) Q E s := by
  have hi : i ≤ items.size := by omega
  have hne : t ≠ s.heap.objs.size := by obtain ⟨o, e, _⟩ := ht; exact Nat.ne_of_lt (Heap.lt_size e)
  have ht' : PyProof.Rows.IsTup s.heap t items := ht
  unfold unpackItems
  refine wpAny_bind ?_
  unfold notIterableAtAll
  refine wpAny_bind (wpAny_specialOf ht'.typeIs PyProof.Rows.slot_tuple_iter.lookup (wpAny_pure ?_))
  simp only [Bool.false_eq_true, if_false]
  refine wpAny_bind (wpAny_holding (PyProof.Rows.iter_tuple ht' ?_))
  refine wpAny_bind (wpAny_holding (PyProof.Rows.draw_tuple hne i 0 _ _ ⟨_, Heap.get?_push_size _ rfl, rfl, rfl⟩ (ht'.push _) (by omega) fun h1 it1 sb1 => ?_))
  rw [List.drop_zero]
  have lt : (List.take i items.toList).length = i := by rw [List.length_take]; simp; omega
  rw [if_neg (by rw [lt]; omega)]
  have t1 : h1.IsTuple t items := (ht'.push _).extBut sb1.extBut hne
  have it1 : h1.IsTupleIter s.heap.objs.size t (i + 0) := by
    have : (0 + i : Nat) = i + 0 := by omega
    rw [← this]; exact it1
  have z1 : t < h1.objs.size := by obtain ⟨o, e, _⟩ := t1; exact Heap.lt_size e
  have z2 : s.heap.objs.size < h1.objs.size := by obtain ⟨o, e, _⟩ := it1; exact Heap.lt_size e
  refine wpAny_bind (wpAny_holding (wpAny_collect_iter (T := "tuple_iterator") (.inr (.inr (.inr rfl))) (walksFrom (A := A.in1) hh s.heap.objs.size t hne items i hi) (fun j s st => by obtain ⟨o, e, c, _⟩ := st.1; exact ⟨o, e, c⟩) ⟨it1, t1⟩ (fun b hb => ?_) (by simp) (fun s2 acc mv ia => ?_) (by omega)))
  · simp only [List.mem_cons, List.not_mem_nil, or_false] at hb
    rcases hb with rfl | rfl
    · exact z2
    · exact z1
  · rw [items_are hi ia]
    have dl : (items.toList.drop i).length = items.size - i := by rw [List.length_drop]; simp
    rw [if_neg (by omega)]
    have ee : (items.toList.drop i).length - (i + 1 + af - 1 - i) = items.size - i - af := by omega
    simp only [ee]
    refine wpAny_bind (wpAny_newList (wpAny_pure ?_) (by rw [List.length_take, dl]; omega))
    obtain ⟨m1, m2, m3, m4, m5⟩ := mv
    obtain ⟨a1, a2, a3, a4, a5⟩ := s2
    have e2 : s.gens = a2 := m2
    have e3 : a3 = s.drawn := m3
    have e5 : a5 = s.os := m4
    subst e2 e3 e5
    have kp : ∀ b o, s.heap.get? b = some o → a1.get? b = some o := fun b o e => by
      have nb : b ≠ s.heap.objs.size := Nat.ne_of_lt (Heap.lt_size e)
      exact m1 b o (by simpa using nb) (sb1.extBut b o nb (Heap.get?_push_of_some _ e))
    refine hQ (a1.push _) a4 a1.objs.size (fun b o e => Heap.get?_push_of_some _ (kp b o e)) ?_ (Heap.get?_push_size _ rfl)
    cases e : s.heap.get? a1.objs.size with
    | none => rfl
    | some o => exact absurd (Heap.lt_size (kp _ o e)) (Nat.lt_irrefl _)
end
end DIV
namespace DI
open PySem PySem.Spec L2
open PyProof.Rows hiding St
section
variable {X : Cx} {G : Gx} {pos : Pos}
theorem pgs_star {t : Expr} {p : Pos} {g : TGs} (h : PGs X [t] g) (hs : assignEach [t] X.env = [(false, assign t X.env)]) : PGs X [.Starred t p] g := ⟨fun pins s σ H vs us Q I r q => by
  have z := h.run pins s σ H vs us Q I r q
  rw [hs] at z
  exact z⟩
theorem assign_T {env : PySem.Env} {es : List Expr} {k : Nat} {v : Value} : assign (.Tuple es k pos) env v = (do standAt pos; unpack v (assignEach es env)) := by rw [assign_Tuple]
/-- a, .., *b = a tuple -/
def gStar (K : PySem.W.Frag) (n : Nat) (t : TGs) : TG := fun v σ H Q => ∃ a xs, v = .ref a ∧ SqT K H a xs ∧ n ≤ xs.length ∧ ∀ L o, H L = none → t (xs.take n ++ [.ref L]) σ (upd H L (.frz o (.lst (xs.drop n)))) Q
theorem pg_star {es : List Expr} {k n : Nat} {t : TGs} (hc : X.calm = true) (h : PGs X es t) (hn : (assignEach es X.env).length = n + 1) (hst : (assignEach es X.env).findIdx? (·.1) = some n) : PG X (.Tuple es k pos) (gStar X.K n t) := by
  refine ⟨fun pins s σ H v u Q I r hw => ?_⟩
  obtain ⟨a, xs, rfl, hq, hl, hw⟩ := hw
  cases r
  obtain ⟨its, rv, ht, hz⟩ := I.tuple hq
  have e1 : its.toArray.size = xs.length := by rw [List.size_toArray, rv.length]
  rw [assign_T]
  refine wpAny_bind (wpAny_standAt ?_)
  unfold unpack
  rw [hn, hst]
  refine wpAny_bind (wpAny_holding (DIV.unpack_star (I.ok.hd hc) ht (by omega) (by omega) fun h' tk L kp hf hL => ?_))
  have hn0 : H L = none := I.hok.gone hf
  have I1 : Inv X pins σ (upd H L (.lst (xs.drop n))) { s with heap := h', toks := tk } := by
    refine (I.laidN (t' := tk) kp hf hn0 ?_)
    refine ⟨?_, _, 0, ?_, hL⟩
    · rw [List.length_drop]; omega
    · simpa using rv.drop n
  obtain ⟨ob, I2⟩ := frz_lst I1 upd_same
  rw [show upd (upd H L (HO.lst (xs.drop n))) L (.frz ob (.lst (xs.drop n))) = upd H L (.frz ob (.lst (xs.drop n))) from by funext b; by_cases z : b = L <;> simp [upd, z]] at I2
  have rr : Vals (xs.take n ++ [V.ref L]) (its.take n ++ [Value.ref L]) := (rv.take n).append (.cons rfl .nil)
  exact h.run pins _ σ _ _ _ Q I2 (by simpa using rr) (hw L ob hn0)
theorem bindPs_app : ∀ {ps qs : List P} {ds es : List D} {r r1 r' : Env}, bindPs ps ds r = some r1 → bindPs qs es r1 = some r' → bindPs (ps ++ qs) (ds ++ es) r = some r'
  | [], qs, [], es, r, r1, r', h1, h2 => by simp only [bindPs, Option.some.injEq] at h1; subst h1; exact h2
  | [], _, _ :: _, _, _, _, _, h1, _ => by simp [bindPs] at h1
  | _ :: _, _, [], _, _, _, _, h1, _ => by simp [bindPs] at h1
  | p :: ps, qs, d :: ds, es, r, r1, r', h1, h2 => by
    simp only [bindPs, Option.bind_eq_some_iff] at h1
    obtain ⟨r2, e1, e2⟩ := h1
    simp only [List.cons_append, bindPs, Option.bind_eq_some_iff]
    exact ⟨r2, e1, bindPs_app e2 h2⟩
theorem slots_app : ∀ {ps qs : List P}, slotsPs (ps ++ qs) = slotsPs ps ++ slotsPs qs
  | [], _ => rfl
  | p :: ps, qs => by simp only [List.cons_append, slotsPs, slots_app, List.append_assoc]
theorem di_gstar (hK : G.K = X.K) (hc : X.calm = true) {es : List Expr} {k : Nat} {ps : List P} {q : P} (h : PGs X es (RdGs G (ps ++ [q]))) (hn : (assignEach es X.env).length = ps.length + 1) (hst : (assignEach es X.env).findIdx? (·.1) = some ps.length) : PG X (.Tuple es k pos) (RdG G (.tpS ps q)) :=
  PG.imp (pg_star hc h hn hst) fun v s H Q ⟨d, r, t, r', se, rd, e, qq⟩ => by
    simp only [bindP] at e
    split at e
    · split at e
      · rename_i ds c
        obtain ⟨r1, e1, e2⟩ := Option.bind_eq_some_iff.mp e
        cases rd with
        | @tup a _ xs s1 q1 =>
          rw [hK] at s1
          refine ⟨a, xs, rfl, s1, by rw [← q1.length]; exact c, fun L o hL => ?_⟩
          have up := Up.new (o := HO.frz o (.lst (xs.drop ps.length))) hL
          refine ⟨ds.take ps.length ++ [.lst (ds.drop ps.length)], r, t, r', se.mono (Le.refl t) up.ex, ((q1.take _).mono (Le.refl t) up.ex).append (.cons (.lst ⟨o, upd_same⟩ ((q1.drop _).mono (Le.refl t) up.ex)) .nil), bindPs_app e1 (by simp [bindPs, e2]), fun s' H' u se' b => qq s' H' (up.trans u) se' ?_⟩
          rw [slots_app] at b
          simpa [slotsP, slotsPs] using b
      · cases e
    · cases e
/-- *a, b, .. = a tuple -/
def gFirst (K : PySem.W.Frag) (af : Nat) (t : TGs) : TG := fun v σ H Q => ∃ a xs, v = .ref a ∧ SqT K H a xs ∧ af ≤ xs.length ∧ ∀ L o, H L = none → t ([.ref L] ++ xs.drop (xs.length - af)) σ (upd H L (.frz o (.lst (xs.take (xs.length - af))))) Q
theorem pg_first {es : List Expr} {k af : Nat} {t : TGs} (hc : X.calm = true) (h : PGs X es t) (hn : (assignEach es X.env).length = 1 + af) (hst : (assignEach es X.env).findIdx? (·.1) = some 0) : PG X (.Tuple es k pos) (gFirst X.K af t) := by
  refine ⟨fun pins s σ H v u Q I r hw => ?_⟩
  obtain ⟨a, xs, rfl, hq, hl, hw⟩ := hw
  cases r
  obtain ⟨its, rv, ht, hz⟩ := I.tuple hq
  have e0 := rv.length
  have e1 : its.toArray.size = xs.length := by rw [List.size_toArray, rv.length]
  rw [assign_T]
  refine wpAny_bind (wpAny_standAt ?_)
  unfold unpack
  rw [hn, hst, show 1 + af = 0 + 1 + af by omega]
  refine wpAny_bind (wpAny_holding (DIV.unpack_starM (i := 0) (I.ok.hd hc) ht (by omega) (by omega) fun h' tk L kp hf hL => ?_))
  have hn0 : H L = none := I.hok.gone hf
  have I1 : Inv X pins σ (upd H L (.lst (xs.take (xs.length - af)))) { s with heap := h', toks := tk } := by
    refine (I.laidN (t' := tk) kp hf hn0 ?_)
    refine ⟨?_, _, 0, ?_, hL⟩
    · rw [List.length_take]; omega
    · rw [e1]
      simpa using rv.take (xs.length - af)
  obtain ⟨ob, I2⟩ := frz_lst I1 upd_same
  rw [show upd (upd H L (HO.lst (xs.take (xs.length - af)))) L (.frz ob (.lst (xs.take (xs.length - af)))) = upd H L (.frz ob (.lst (xs.take (xs.length - af)))) from by funext b; by_cases z : b = L <;> simp [upd, z]] at I2
  have rr : Vals ([V.ref L] ++ xs.drop (xs.length - af)) ([Value.ref L] ++ its.drop (xs.length - af)) := (show Vals [V.ref L] [Value.ref L] from .cons rfl .nil).append (rv.drop _)
  refine h.run pins _ σ _ _ _ Q I2 ?_ (hw L ob hn0)
  rw [e1]
  simpa using rr
theorem pgs_starM {t : Expr} {es : List Expr} {p : Pos} {g : TGs} (h : PGs X (t :: es) g) (hs : assignEach (t :: es) X.env = (false, assign t X.env) :: assignEach es X.env) : PGs X (.Starred t p :: es) g := ⟨fun pins s σ H vs us Q I r q => by
  have z := h.run pins s σ H vs us Q I r q
  rw [hs] at z
  exact z⟩
theorem di_gfirst (hK : G.K = X.K) (hc : X.calm = true) {es : List Expr} {k : Nat} {rs : List P} {q : P} (h : PGs X es (RdGs G (q :: rs))) (hn : (assignEach es X.env).length = 1 + rs.length) (hst : (assignEach es X.env).findIdx? (·.1) = some 0) : PG X (.Tuple es k pos) (RdG G (.tpM q rs)) :=
  PG.imp (pg_first hc h hn hst) fun v s H Q ⟨d, r, t, r', se, rd, e, qq⟩ => by
    simp only [bindP] at e
    split at e
    · split at e
      · rename_i ds c
        obtain ⟨r1, e1, e2⟩ := Option.bind_eq_some_iff.mp e
        cases rd with
        | @tup a _ xs s1 q1 =>
          rw [hK] at s1
          have ql := q1.length
          refine ⟨a, xs, rfl, s1, by rw [← ql]; exact c, fun L o hL => ?_⟩
          have up := Up.new (o := HO.frz o (.lst (xs.take (xs.length - rs.length)))) hL
          rw [← ql] at up ⊢
          refine ⟨.lst (ds.take (ds.length - rs.length)) :: ds.drop (ds.length - rs.length), r, t, r', se.mono (Le.refl t) up.ex, .cons (.lst ⟨o, upd_same⟩ ((q1.take _).mono (Le.refl t) up.ex)) ((q1.drop _).mono (Le.refl t) up.ex), by simp only [bindPs, e1, Option.bind_some, e2], fun s' H' u se' b => qq s' H' (up.trans u) se' ?_⟩
          simpa [slotsP, slotsPs] using b
      · cases e
    · cases e
end
end DI

set_option Elab.async false
set_option linter.all false
set_option maxRecDepth 100000
set_option maxHeartbeats 4000000
/-! DIR: own exception classes over any built-in base: made, raised. -/
namespace DI
open PySem PySem.Spec L2
open PyProof.Rows hiding St

/-! ### the bases -/
structure XB where
  name : String
  newId : String
  initId : String
  tail : List Value
def xbV : XB := ⟨"ValueError", "ValueError.__new__", "ValueError.__init__", [.type "ValueError", .type "Exception", .type "BaseException", .type "object"]⟩
def xbI : XB := ⟨"IndexError", "IndexError.__new__", "IndexError.__init__", [.type "IndexError", .type "LookupError", .type "Exception", .type "BaseException", .type "object"]⟩
def xbO : XB := ⟨"OverflowError", "OverflowError.__new__", "OverflowError.__init__", [.type "OverflowError", .type "ArithmeticError", .type "Exception", .type "BaseException", .type "object"]⟩
def xbR : XB := ⟨"RuntimeError", "RuntimeError.__new__", "RuntimeError.__init__", [.type "RuntimeError", .type "Exception", .type "BaseException", .type "object"]⟩
def xbZ : XB := ⟨"ZeroDivisionError", "ZeroDivisionError.__new__", "ZeroDivisionError.__init__", [.type "ZeroDivisionError", .type "ArithmeticError", .type "Exception", .type "BaseException", .type "object"]⟩
structure XBok (b : XB) : Prop where
  F : ExcBaseFacts b.name b.newId b.initId b.tail
  S : StoreFacts b.name b.tail "object.__setattr__" "object"
  ty : typeOf (.type b.name) = pure (.type "type")
  st : Manifest.isStub b.name = false
  hi : PySem.W.handedIn (.builtin b.initId) = true
theorem xbV_ok : XBok xbV := ⟨F.excBase_ValueError, F.store_ValueError, by kernel_rfl, by decide +kernel, by decide +kernel⟩
theorem xbI_ok : XBok xbI := ⟨F.excBase_IndexError, F.store_IndexError, by kernel_rfl, by decide +kernel, by decide +kernel⟩
theorem xbO_ok : XBok xbO := ⟨F.excBase_OverflowError, F.store_OverflowError, by kernel_rfl, by decide +kernel, by decide +kernel⟩
theorem xbR_ok : XBok xbR := ⟨F.excBase_RuntimeError, F.store_RuntimeError, by kernel_rfl, by decide +kernel, by decide +kernel⟩
theorem xbZ_ok : XBok xbZ := ⟨F.excBase_ZeroDivisionError, F.store_ZeroDivisionError, by kernel_rfl, by decide +kernel, by decide +kernel⟩

/-! ### what the written part says of an own exception class -/
structure OexG (K : PySem.W.Frag) (C : Addr) (b : XB) : Prop where
  b_ : XBok b
  cls : ∃ nm q N bs bm sn sub ab col dd k0 k1 k2 k3 k5, K.lookup C = some (excClassObj nm q C N bs bm true sn sub ab col dd k0 k1 k2 k3 k5 b.newId) ∧ PySem.W.excTail b.tail bm = true
  sa : PySem.W.findIn K (.ref C) "__setattr__" = some (some (.builtin "object.__setattr__"))
  exC : PySem.W.subIn K (.ref C) (.type "BaseException") = some true
  tyC : PySem.W.typeIn K (.ref C) = some (.type "type")
  kC : PySem.W.keepIn K (.ref C) = true

section
open Builtin Builtin.ObjectAttr
variable {prog : Program} {w : World} {A : Around} {E : Value → Shared → Prop} {R : Result → Shared → Prop} {hp : Heap} {g : Array GenState} {d : Drawn} {t : Nat} {os : OsState}
theorem exc_osaG {b : XB} (SF : StoreFacts b.name b.tail "object.__setattr__" "object") {K : PySem.W.Frag} {name : Str} {tk : Tok} {v : Value} {x C : Addr} {fv : Array Value} {cd : ClassData}
    (X : K.In hp) (hx : hp.get? x = some { cls := .ref C, data := .fields fv }) (hcd : PySem.W.clsIn K C = some cd) (hm : PySem.W.excOver K C b.tail = true) (hh : cd.hasDict = true) (ha : PySem.W.findIn K (.ref C) name = some none)
    (hq : ∀ h' tk' dx, (∀ b o, b ≠ x → hp.get? b = some o → h'.get? b = some o) → hp.objs.size ≤ dx → dx ≠ x → h'.get? x = some { cls := .ref C, dict := some dx, data := .fields fv } →
      h'.Ns1 dx (fun y => if y = name then some v else none) → R (.ok (.ret .none)) ⟨h', g, d, tk', os⟩) :
    codeAny (model prog w) A (.call (.builtin "object.__setattr__") ⟨[.ref x, .str name tk, v], []⟩) R ⟨hp, g, d, t, os⟩ := by
  have I : PySem.W.InstAt hp x { cls := .ref C, data := .fields fv } C none := ⟨hx, rfl, rfl, trivial⟩
  have hxs : x ≠ hp.objs.size := Nat.ne_of_lt (Heap.lt_size hx)
  refine PySem.W.osa_openX (r := none) SF X I hm (by unfold PySem.W.takerIn; rw [ha]; rfl) fun bb => ?_
  have hcls : PySem.W.Looks (model prog w) hp (classData C) cd := PySem.W.looks_clsIn X hcd
  obtain ⟨nm, bs, mro, ns, qn, hd, sn, sb, ab, col, del⟩ := cd
  dsimp only at hh
  subst hh
  show wpAny _ _ (storeInOwnDict (.ref x) (.ref C) (.str name tk) name v bb) _ _ _
  unfold storeInOwnDict ownDictForStores
  repeat (first | with_reducible refine PySem.HandSPX.store_in_new ?_ ?_ | with_reducible refine wpAny_loadPart_at hx ?_ | with_reducible refine hcls.at ?_ | wp_step)
  · exact ⟨_, #[], _, (Heap.get?_update_ne _ _ _ _ hxs.symm).trans (Heap.get?_push_at rfl rfl), rfl, fun e he => absurd he (by simp), fun _ => rfl⟩
  · intro h' tk' hn' hs
    have hx₁ : (hp.push { cls := .type "dict", data := .dict #[] }).get? x = some { cls := .ref C, data := .fields fv } := Heap.get?_push_of_some _ hx
    refine hq h' tk' hp.objs.size (fun b o hb ho => ?_) (Nat.le_refl _) hxs.symm ?_ hn'
    · exact (hs.2 b (Nat.ne_of_lt (Heap.lt_size ho))).trans ((Heap.get?_update_ne _ _ _ _ hb).trans (Heap.get?_push_of_some _ ho))
    · exact (hs.2 x hxs).trans (Heap.get?_update_self _ hx₁ rfl)
theorem osa_oldG {b : XB} (SF : StoreFacts b.name b.tail "object.__setattr__" "object") {K : PySem.W.Frag} {name : Str} {tk : Tok} {v : Value} {x C dx : Addr} {fv : Array Value} {cd : ClassData} {m0 : Str → Option Value} {nl : List Str}
    (X : K.In hp) (hx : hp.get? x = some { cls := .ref C, dict := some dx, data := .fields fv }) (hns : hp.Ns1 dx m0) (hw : Within m0 nl) (hz : nl.length ≤ 1000) (hcd : PySem.W.clsIn K C = some cd) (hm : PySem.W.excOver K C b.tail = true) (hh : cd.hasDict = true)
    (ha : PySem.W.findIn K (.ref C) name = some none)
    (hq : ∀ h' tk', (∀ b o, b ≠ dx → hp.get? b = some o → h'.get? b = some o) → h'.Ns1 dx (fun y => if y = name then some v else m0 y) → R (.ok (.ret .none)) ⟨h', g, d, tk', os⟩) :
    codeAny (model prog w) A (.call (.builtin "object.__setattr__") ⟨[.ref x, .str name tk, v], []⟩) R ⟨hp, g, d, t, os⟩ := by
  obtain ⟨oD, esD, epD, hoD, hdD, _⟩ := hns.count hw
  have I : PySem.W.InstAt hp x { cls := .ref C, dict := some dx, data := .fields fv } C (some oD) := ⟨hx, rfl, rfl, hoD⟩
  refine PySem.W.osa_openX (r := none) SF X I hm (by unfold PySem.W.takerIn; rw [ha]; rfl) fun bb => ?_
  have hcls : PySem.W.Looks (model prog w) hp (classData C) cd := PySem.W.looks_clsIn X hcd
  obtain ⟨nm, bs, mro, ns, qn, hd, sn, sb, ab, col, del⟩ := cd
  dsimp only at hh
  subst hh
  show wpAny _ _ (storeInOwnDict (.ref x) (.ref C) (.str name tk) name v bb) _ _ _
  unfold storeInOwnDict ownDictForStores
  repeat (first | with_reducible refine PySem.OEX.store_in_old hns hw hz ?_ | with_reducible refine wpAny_loadPart_at hx ?_ | with_reducible refine hcls.at ?_ | wp_step)
  intro h' tk' hn' hs
  exact hq h' tk' (fun b o hb ho => (hs.2 b hb).trans ho) hn'
end

section
variable {X : Cx} {pins : List (Addr × Obj)} {σ : St} {H : Hp} {s : Shared} {a C dx : Addr} {b : XB} {f : Str} {y : V} {u : Value} {fs : List (Str × V)} {Q : Unit → Shared → Prop} {E : Value → Shared → Prop} {A : Around}
theorem OexG.cl {K : PySem.W.Frag} (T : OexG K C b) : ∃ cd, PySem.W.clsIn K C = some cd ∧ cd.hasDict = true ∧ PySem.W.excOver K C b.tail = true := by
  obtain ⟨nm, q, N, bs, bm, sn, sub, ab, col, dd, k0, k1, k2, k3, k5, hC, hbm⟩ := T.cls
  have hcl : PySem.W.clsIn K C = some { name := nm, bases := bs, mro := .ref C :: bm, ns := N, qualname := q, hasDict := true, slotNames := sn, subclasses := sub, abstract := ab, collection := col, hasDel := false } := by unfold PySem.W.clsIn; rw [hC] <;> rfl
  refine ⟨_, hcl, rfl, ?_⟩
  unfold PySem.W.excOver
  rw [hcl]
  show (C == C && PySem.W.excTail b.tail bm) = true
  rw [hbm]; simp
/-- self.f = y, the first one -/
theorem ost_newG (T : OexG X.K C b) (I : Inv X pins σ H s) (e : H a = some (exo a C none)) (hno : PySem.W.findIn X.K (.ref C) f = some none) (ry : RelV y u)
    (h : ∀ dx s', H dx = none → dx ≠ a → Inv X pins σ (upd (upd H dx (exd dx [(f, y)])) a (exo a C (some dx))) s' → Q () s') : wpAny (model X.prog X.w) A (setAttr (.ref a) f u) Q E s := by
  obtain ⟨cd, hcl, hhd, hov⟩ := T.cl
  obtain ⟨t1, ho⟩ := exo_at I.hok e
  obtain ⟨hp, g, d, t, os⟩ := s
  refine PySem.W.set_plain I.kIn (ox := { cls := .ref C, dict := none, data := .fields #[.ref t1, .none, .none, .none, .bool false, .none] }) (od := none) ⟨ho, rfl, rfl, trivial⟩ T.sa ?_
  refine exc_osaG T.b_.S I.kIn ho hcl hov hhd hno (fun h' tk' dx k dn dne hx hn => ?_)
  have hnd : H dx = none := I.hok.fresh dn
  have nd : ∀ {b : Addr} {o : Obj}, hp.get? b = some o → b ≠ dx := fun {b o} q => Nat.ne_of_lt (Nat.lt_of_lt_of_le (Heap.lt_size q) dn)
  have na : ∀ {b : Addr}, H b = none → b ≠ a := fun {b} n z => by
    rw [z, e] at n
    cases n
  have Un1 : Un X.fs [] H (upd (upd H dx (exd dx [(f, y)])) a (exo a C (some dx))) hp h' := {
    keep := fun b o q n _ _ => k b o (na n) q
    slot := fun b o q n _ _ => ⟨o.slots, k b o (na n) q⟩
    free := fun b o q n _ => by rw [upd_ne (na n), upd_ne (nd q)]; exact n
    there := fun b o q _ => by
      by_cases hb : b = a
      · exact ⟨_, by rw [hb]; exact hx⟩
      · exact ⟨o, k b o hb q⟩
    tups := fun b xs q => by rw [upd_ne (at_ne e q exo_tup), upd_ne (ne_of_none q hnd)]; exact q
    frzs := fun b o v q => by rw [upd_ne (at_ne e q exo_frz), upd_ne (ne_of_none q hnd)]; exact q
    tbls := fun b ps q => ⟨#[], by rw [upd_ne (at_ne e q exo_tbl), upd_ne (ne_of_none q hnd), q]; simp⟩ }
  refine h dx _ hnd dne (I.un (t' := tk') Un1 fun b o q => ?_)
  by_cases hb : b = a
  · subst hb
    rw [upd_same] at q
    cases q
    exact exo_ok hx
  · rw [upd_ne hb] at q
    by_cases hd : b = dx
    · subst hd
      rw [upd_same] at q
      cases q
      exact exd_ok hn (relO_put (fs := []) ry fun g => True.intro)
    · rw [upd_ne hd] at q
      exact (I.hok b o q).stay (fun c v hc z => k c v (by
          rcases hc with hc | hc
          · rw [hc]
            exact hb
          · exact at_ne e hc exo_own) z)
        (fun c hc => by rw [upd_ne (at_ne e hc exo_own), upd_ne (ne_of_none hc hnd)]; exact hc) (fun c xs hc => by rw [upd_ne (at_ne e hc exo_tup), upd_ne (ne_of_none hc hnd)]; exact hc)
/-- self.f = y, a further one -/
theorem ost_oldG (T : OexG X.K C b) (I : Inv X pins σ H s) (e : H a = some (exo a C (some dx))) (ed : H dx = some (exd dx fs)) (hl : fs.length ≤ 900) (hno : PySem.W.findIn X.K (.ref C) f = some none) (ry : RelV y u)
    (h : ∀ s', Inv X pins σ (upd H dx (exd dx ((f, y) :: fs))) s' → Q () s') : wpAny (model X.prog X.w) A (setAttr (.ref a) f u) Q E s := by
  obtain ⟨cd, hcl, hhd, hov⟩ := T.cl
  obtain ⟨t1, ho⟩ := exo_at I.hok e
  obtain ⟨mA, hns, rel⟩ := exd_at I.hok ed
  have hw := within_of rel
  obtain ⟨hp, g, d, t, os⟩ := s
  obtain ⟨oD, _, _, hoD, _, _⟩ := hns.count hw
  refine PySem.W.set_plain I.kIn (ox := { cls := .ref C, dict := some dx, data := .fields #[.ref t1, .none, .none, .none, .bool false, .none] }) (od := some oD) ⟨ho, rfl, rfl, hoD⟩ T.sa ?_
  refine osa_oldG T.b_.S I.kIn ho hns hw (by rw [List.length_map]; omega) hcl hov hhd hno (fun h' tk' k hn => ?_)
  have hd : ∃ o, h'.get? dx = some o := by
    obtain ⟨o, _, _, e', _⟩ := hn
    exact ⟨o, e'⟩
  exact h _ (I.write (t' := tk') (x := dx) (e := dx) (o := exd dx ((f, y) :: fs)) (by rw [ed]; exact True.intro) (.inl rfl) k hd (exd_ok hn (relO_put ry rel)))
/-- B.__init__(self, ..): nothing of it is told -/
theorem oinit_okG {us : List Value} {Q : Value → Shared → Prop} (T : OexG X.K C b) (I : Inv X pins σ H s) (e : H a = some (exo a C none)) (hl : us.length ≤ sizeLine) (h : ∀ s', Inv X pins σ H s' → Q .none s') :
    wpAny (model X.prog X.w) A (call (.builtin b.initId) (.ref a :: us)) Q E s := by
  obtain ⟨nm, q, N, bs, bm, sn, sub, ab, col, dd, k0, k1, k2, k3, k5, hC, hbm⟩ := T.cls
  obtain ⟨t1, ho⟩ := exo_at I.hok e
  obtain ⟨hp, g, d, t, os⟩ := s
  refine wpAny_call (PySem.HandSPX.init_base T.b_.F (fun Y => PySem.W.excTail_contains Y bm hbm) (I.kIn _ _ hC) ho hl fun h' t2 k hx => ?_)
  have J := I.write (t' := t) (x := a) (e := a) (o := exo a C none) (by rw [e]; exact True.intro) (.inl rfl) k ⟨_, hx⟩ (exo_ok hx)
  have eu : upd H a (exo a C none) = H := by
    funext b
    by_cases hb : b = a
    · rw [hb, upd_same, e]
    · rw [upd_ne hb]
  rw [eu] at J
  exact h _ J
end

/-! ### readings and rules -/
theorem wpAny_methodC {M : Model} {A : Around} {E : Value → Shared → Prop} {s : Shared} {env : PySem.Env} {o : Expr} {name : Str} {apos pos : Pos} {args : List Expr} {Q : Value → Shared → Prop}
    (hbase : attributeBase o name env (eval o env) = eval o env)
    (hfew : ((backTo pos (starEach args env)).all (fun x => !x.1) && (backToKw pos (keywordEach [] env)).all (fun x => x.1.isSome)
      && decide (args.length + ([] : List Keyword).length + (if ([] : List Keyword).isEmpty then 0 else 1) < 30)) = true)
    (hline : (apos.endLine == pos.line) = true)
    (h : wpAny M A (eval o env) (fun ov s₁ => ∀ pl, wpAny M A (getMethod ov name pl) (fun fx s₂ => wpAny M A (callWith pos fx.1 fx.2 (backTo pos (starEach args env)) []) Q E s₂) E s₁) E s) :
    wpAny M A (eval (.Call (.Attribute o name apos) args [] pos) env) Q E s := by
  rw [arm_eval_Call, hbase]
  refine wpAny_bind (wpAny_mono h (fun ov s₁ h₁ => ?_) fun _ _ e => e)
  refine wpAny_bind (wpAny_standAt ?_)
  have hform : methodCallForm (args.length + ([] : List Keyword).length) (backTo pos (starEach args env)) (backToKw pos (keywordEach [] env)) = true := hfew
  have hpos : methodCallPos true o env apos pos = pure pos := by unfold methodCallPos; simp [hline]
  unfold methodCall
  rw [hform]
  refine wpAny_bind (wpAny_holding (wpAny_mono (h₁ _) (fun fx s₂ h₂ => ?_) fun _ _ e => e))
  exact wpAny_bind (wpAny_of_eq hpos h₂)

def tInitG (K : PySem.W.Frag) (b : XB) (ta : TA) : TE := fun σ H Q => ta σ H fun vs H1 => ∃ (a C : Addr) (ws : List V), vs = .ref a :: ws ∧ ws.length ≤ 1000 ∧ OexG K C b ∧ H1 a = some (exo a C none) ∧ Q .non H1
def tOstG (K : PySem.W.Frag) (f : Str) (to te : TE) : TS := fun D σ H => te σ H fun y H1 => to σ H1 fun x H2 => ∃ (a C : Addr) (b : XB), x = .ref a ∧ OexG K C b ∧ PySem.W.findIn K (.ref C) f = some none ∧
  ((H2 a = some (exo a C none) ∧ ∀ dx, H2 dx = none → dx ≠ a → D.nx σ (upd (upd H2 dx (exd dx [(f, y)])) a (exo a C (some dx)))) ∨
    ∃ (dx : Addr) (fs : List (Str × V)), H2 a = some (exo a C (some dx)) ∧ H2 dx = some (exd dx fs) ∧ fs.length ≤ 900 ∧ D.nx σ (upd H2 dx (exd dx ((f, y) :: fs))))
def tMkG (C : Addr) (b : XB) (sp : Sp) (ta : TA) : St → Hp → XK → Prop := fun σ H Q => ta σ H fun vs H1 => vs.length ≤ 1000 ∧ ∀ a, H1 a = none → sp (.ref a :: vs) (upd H1 a (exo a C none))
  (fun v H2 => v = .non ∧ ∃ (d : Addr) (fs : List (Str × V)), H2 a = some (exo a C (some d)) ∧ H2 d = some (exd d fs) ∧ H1 d = none ∧ Q (.ref C) (some d) (upd (del H2 a) d (.xd fs))) (fun _ _ _ => False)
/-- how the base's __init__ is found by its name -/
inductive BaseAt (X : Cx) (b : XB) (x : Str) : Prop
  | blt (hm : X.mg x = none) (hx : x ≠ "__name__") (hv : bootBuiltins x = some (.type b.name)) (vV : PySem.W.findCls X.K (.type b.name) (.type "type") "__init__" = some (.val (.builtin b.initId)))
  | own {CB : Addr} (hm : X.mg x = some (.ref CB)) (rd : PySem.W.readsIn X.K CB (.type "type") = true) (ga : PySem.W.specialIn X.K (.ref CB) "__getattribute__" = some (some (.builtin "type.__getattribute__"))) (vV : PySem.W.findCls X.K (.ref CB) (.type "type") "__init__" = some (.val (.builtin b.initId)))
section
variable {X : Cx} {o e : Expr} {es : List Expr} {to te : TE} {ta : TA} {f : Str} {p p' p1 p2 pos : Pos} {b : XB}
theorem pe_initG {x : Str} (hb : XBok b) (hg : Gl X x) (hdb : (x == ("__debug__" : Str)) = false) (hB : BaseAt X b x) (ha : PA X (e :: es) ta)
    (hf : ((backTo pos (starEach (e :: es) X.env)).all (fun x => !x.1) && (backToKw pos (keywordEach [] X.env)).all (fun x => x.1.isSome) && decide ((e :: es).length + ([] : List Keyword).length + (if ([] : List Keyword).isEmpty then 0 else 1) < 30)) = true)
    (hl : (p2.endLine == pos.line) = true)
    (he : starEach (e :: es) X.env = (false, eval e X.env) :: starEach es X.env) (hpl : (backTo pos (starEach es X.env)).any (·.1) = false) :
    PE X (.Call (.Attribute (.Name x p1) "__init__" p2) (e :: es) [] pos) (tInitG X.K b ta) := by
  refine ⟨fun pins s σ H Q I h => ?_⟩
  have go : ∀ {s1 : Shared}, Inv X pins σ H s1 → wpAny (model X.prog X.w) X.A (callWith pos (Value.builtin b.initId) [] (backTo pos (starEach (e :: es) X.env)) []) (EP X pins σ Q) X.xe s1 := fun {s1} I1 => by
    refine PyProof.Rows.callWith_method1 (thn (ha.run pos pins _ σ H _ I1 h) fun us s1 ⟨vs, H1, I1, r1, a, C, ws, ev, hl, T, ea, q⟩ => ?_) he hpl
    subst ev
    cases r1 with
    | @cons _ u0 _ ur ra rw' =>
      obtain rfl : u0 = Value.ref a := ra
      have hlen : ur.length ≤ sizeLine := by
        rw [← Paired.length rw', sizeLine_eq]
        omega
      exact oinit_okG T I1 ea hlen fun s' J => ⟨.non, H1, J, rfl, q⟩
  cases hB with
  | blt hm hx hv vV =>
    refine wpAny_methodC (by rfl) hf hl (ld_blt I hg hm hv (fun pl => ?_) hx hdb)
    obtain ⟨m, fr⟩ := I.fr
    exact PySem.W.method_type fr I.ok.mod.kin hb.ty hb.st vV hb.hi (go (I.tok _))
  | own hm rd ga vV =>
    refine wpAny_methodC (by rfl) hf hl (ld_glob I hg hm (fun pl => ?_) hdb)
    exact PySem.W.method_cls I.kIn ga (PySem.W.cls_value I.kIn rd vV hb.hi (go (I.tok _)))
theorem ps_ostG (ho : PE X o to) (he : PE X e te) (hs : swapsWith e (some (.Attribute o f p')) pos.line X.env = pure false) : PS X (.Assign [.Attribute o f p'] e pos) (tOstG X.K f to te) := by
  refine ⟨fun pins s σ H D I h => ?_⟩
  refine plainObj_wpAny_Assign_Attribute (thn (he.run pins s σ H _ I h) fun v s1 ⟨y, H1, I1, r1, q1⟩ => thn (ho.run pins s1 σ H1 _ I1 q1) fun u s2 ⟨x, H2, I2, r2, a, C, b, ex, T, hno, q⟩ => ?_) hs
  subst ex
  obtain rfl : u = Value.ref a := r2
  rcases q with ⟨ea, q⟩ | ⟨dx, fs, ea, ed, hl, q⟩
  · exact ost_newG T I2 ea hno r1 fun dx s' n ne J => ⟨σ, _, J, q dx n ne⟩
  · exact ost_oldG T I2 ea ed hl hno r1 fun s' J => ⟨σ, _, J, q⟩
theorem pmk_oexG {CX : CXT} {x : Str} {C fI : Addr} {k : Nat} {fd : FuncData} {ps : List Str} {sp : Sp} (T : OexG X.K C b) (iC : PySem.W.findIn X.K (.ref C) "__init__" = some (some (.ref fI))) (tI : PySem.W.typeIn X.K (.ref fI) = some (.type "function"))
    (F1 : FnOk X.prog X.w X.K X.mg X.base CX k fI fd ps sp) (hr : Room (k + 1) X.A) (hb : Binds X.K fd ps []) (hx : Passes CX X (fun _ _ _ => False)) (hg : Gl X x) (hm : X.mg x = some (.ref C)) (ha : PA X (e :: es) ta)
    (hdb : (x == ("__debug__" : Str)) = false) (he : starEach (e :: es) X.env = (false, eval e X.env) :: starEach es X.env) (hpl : (backTo pos (starEach es X.env)).any (·.1) = false) :
    PMk X (.Call (.Name x p) (e :: es) [] pos) (tMkG C b sp ta) := by
  intro pins s σ H Q I h
  obtain ⟨nm, q, N, bs, bm, sn, sub, ab, col, dd, k0, k1, k2, k3, k5, hC, hbm⟩ := T.cls
  refine wpAny_Call_Name_kw (ld_glob I hg hm ?_ hdb)
  refine PySem.W.callWith_K (h₀ := X.base) I.ok.mod.kin T.kC (thn (ha.run pos pins s σ H _ I h) fun us s1 ⟨vs, H1, I1, r1, hz, q1⟩ => ⟨I1.kIn, ?_⟩) he hpl
  show wpAny _ _ (call (.ref C) us) _ _ _
  obtain ⟨hp, g, dr, tk, os⟩ := s1
  have hsz : hp.objs.size ≤ hp.objs.size + 1 := Nat.le_succ _
  have hn : H1 (hp.objs.size + 1) = none := I1.hok.fresh hsz
  have hq := q1 (hp.objs.size + 1) hn
  have kk : ∀ b o, hp.get? b = some o → ((hp.push (PySem.W.kdv_tup us)).push (PySem.HandSPX.excO C hp.objs.size)).get? b = some o := fun b o e => Heap.get?_push_of_some _ (Heap.get?_push_of_some _ e)
  have hget : ((hp.push (PySem.W.kdv_tup us)).push (PySem.HandSPX.excO C hp.objs.size)).get? (hp.objs.size + 1) = some (PySem.HandSPX.excO C hp.objs.size) := by heap_get
  have I2 : Inv X pins σ (upd H1 (hp.objs.size + 1) (exo (hp.objs.size + 1) C none)) ⟨(hp.push (PySem.W.kdv_tup us)).push (PySem.HandSPX.excO C hp.objs.size), g, dr, tk, os⟩ :=
    I1.laid (t' := tk) (a := hp.objs.size + 1) (o := exo (hp.objs.size + 1) C none) (h' := (hp.push (PySem.W.kdv_tup us)).push (PySem.HandSPX.excO C hp.objs.size)) kk hsz (exo_ok hget)
  have r2 : Vals (V.ref (hp.objs.size + 1) :: vs) (Value.ref (hp.objs.size + 1) :: us) := .cons rfl r1
  have hl : (Value.ref (hp.objs.size + 1) :: us ++ []).length = ps.length := by
    have e := r2.length
    rw [F1.len _ _ _ _ hq] at e
    rw [List.append_nil]
    exact e.symm
  have hus : us.length ≤ sizeLine := by
    rw [← Paired.length r1, sizeLine_eq]
    omega
  have bt := hb _ (Value.ref (hp.objs.size + 1) :: us) I2.kIn hl
  rw [List.append_nil] at bt
  refine wpAny_call (PySem.HandSPX.call_own T.b_.F (fun Y => PySem.W.excTail_contains Y bm hbm) (I1.kIn _ _ hC) (PySem.W.looks_findIn I1.kIn iC) (fun self => PySem.W.bind_fn I1.kIn self tI) hus
    (codeAny_mono (F1.run _ X.stack _ _ ⟨Value.ref (hp.objs.size + 1) :: us, []⟩ (Value.ref (hp.objs.size + 1) :: us) _ _ (fun _ _ _ => False) (hr.make C us []) (I2.env0.make C us []) bt r2 hq) fun r s' hq' => ?_))
  cases r with
  | error er => exact hx pins σ _ _ er s' I2 hq'
  | ok fl =>
    cases fl with
    | ret u =>
      obtain ⟨v, H2, os2, bare2, un2, hok2, rv, ev, d, fs, ea, ed, hd1, q2⟩ := hq'
      subst ev
      obtain ⟨h2, g2, d2, t2, os'⟩ := s'
      exact ⟨rv, mk_end (raises_own T.exC T.tyC) I1 hsz kk un2 hok2 os2 bare2 ea ed hd1 q2⟩
    | next => exact False.elim hq'
    | brk => exact False.elim hq'
    | cont => exact False.elim hq'
end
end DI

set_option Elab.async false
set_option linter.all false
set_option maxRecDepth 100000
set_option maxHeartbeats 4000000
/-! DIRA: __init__ of an own exception class; raise. -/
namespace DI
open PySem PySem.Spec L2
open PyProof.Rows hiding St

/-! ### self.f = f, .. -/
def asgsB : List Str → List Stmt → Bool
  | [], [] => true
  | f :: fs, .Assign [.Attribute (.Name s _) g _] (.Name h _) _ :: r => decide (s = "self") && decide (g = f) && decide (h = f) && !decide (f = "__classdict__") && asgsB fs r
  | _, _ => false
def initB (B : Str) (fs : List Str) : List Stmt → Bool
  | .Expr (.Call (.Attribute (.Name b _) m ap) [.Name s _, .Constant (.str _) _ _] [] cp) _ :: r => (ap.endLine == cp.line) && decide (b = B) && decide (m = "__init__") && decide (s = "self") && asgsB fs r
  | _ => false
/-- local names, numbered from i -/
def LocFrom (X : Cx) : Nat → List Str → Prop
  | _, [] => True
  | i, f :: fs => X.N[i]? = some f ∧ X.env.scope.names.lookup f = some .local ∧ (f == ("__debug__" : Str)) = false ∧ LocFrom X (i + 1) fs
def addF : List Str → List V → List (Str × V) → List (Str × V)
  | f :: fs, w :: ws, acc => addF fs ws ((f, w) :: acc)
  | _, _, acc => acc
theorem addF_eq : ∀ (fs : List Str) (ws : List V) (acc : List (Str × V)), addF fs ws acc = (fs.zip ws).reverse ++ acc
  | [], ws, acc => by cases ws <;> rfl
  | f :: fs, [], acc => by rfl
  | f :: fs, w :: ws, acc => by
    show addF fs ws ((f, w) :: acc) = _
    rw [addF_eq fs ws, List.zip_cons_cons, List.reverse_cons, List.append_assoc]; rfl
/-- the slots hold the values -/
def SlotsAre (σ : St) : Nat → List V → Prop
  | _, [] => True
  | i, w :: ws => σ[i]? = some (some w) ∧ SlotsAre σ (i + 1) ws

theorem upd_id {H : Hp} {p : Addr} {o : HO} (h : H p = some o) : upd H p o = H := by
  funext b
  by_cases hb : b = p
  · rw [hb, upd_same, h]
  · rw [upd_ne hb]
def tAsF (K : PySem.W.Frag) (i : Nat) (fs : List Str) : TS := fun D σ H => ∃ (a C : Addr) (b : XB) (dx : Addr) (fs0 : List (Str × V)) (ws : List V), σ[0]? = some (some (.ref a)) ∧ SlotsAre σ i ws ∧ ws.length = fs.length ∧ OexG K C b ∧
  (∀ f ∈ fs, PySem.W.findIn K (.ref C) f = some none) ∧ a ≠ dx ∧ H a = some (exo a C (some dx)) ∧ H dx = some (exd dx fs0) ∧ fs0.length + fs.length ≤ 900 ∧ D.nx σ (upd H dx (exd dx (addF fs ws fs0)))
section
variable {X : Cx}
theorem asgs_walk (h0 : X.N[0]? = some ("self" : Str)) (l0 : X.env.scope.names.lookup ("self" : Str) = some .local) : ∀ (fs : List Str) (i : Nat) (body : List Stmt), asgsB fs body = true → LocFrom X i fs → PSs X body (tAsF X.K i fs)
  | [], i, [], _, _ => PSs.imp pss_nil fun D σ H ⟨a, C, b, dx, fs0, ws, e0, sl, ln, T, nf, ne, ha, hd, l9, q⟩ => by
      have : addF [] ws fs0 = fs0 := by cases ws <;> rfl
      rw [this, upd_id hd] at q
      exact q
  | [], i, _ :: _, h, _ => by simp [asgsB] at h
  | f :: fs, i, body, h, L => by
      unfold asgsB at h
      split at h
      · rename_i h1; cases h1
      · rename_i f' fs' s ps g pa hh ph pp r h1
        cases h1
        simp only [Bool.and_eq_true, decide_eq_true_eq, Bool.not_eq_true', decide_eq_false_iff_not] at h
        obtain ⟨⟨⟨⟨rfl, rfl⟩, rfl⟩, hcd⟩, hr⟩ := h
        obtain ⟨n1, n2, n3, n4⟩ := L
        refine PSs.imp (pss_cons (ps_ostG (pe_var h0 (.inl l0)) (pe_var n1 (.inl n2) n3 (by simpa using hcd)) (by rfl)) (asgs_walk h0 l0 fs (i + 1) r hr n4)) fun D σ H ⟨a, C, b, dx, fs0, ws, e0, sl, ln, T, nf, ne, ha, hd, l9, q⟩ => ?_
        cases ws with
        | nil => simp at ln
        | cons w ws =>
          obtain ⟨s1, s2⟩ := sl
          refine ⟨w, s1, .ref a, e0, a, C, b, rfl, T, nf _ List.mem_cons_self, .inr ⟨dx, fs0, ha, hd, by simp at l9; omega, ?_⟩⟩
          refine ⟨a, C, b, dx, (_, w) :: fs0, ws, e0, s2, by simpa using ln, T, fun f hf => nf f (List.mem_cons_of_mem _ hf), ne, by rw [upd_ne ne]; exact ha, upd_same, by simp at l9 ⊢; omega, ?_⟩
          rw [upd_upd]
          exact q
      · cases h

/-- the whole __init__ -/
def tInitW (K : PySem.W.Frag) (b : XB) (fs : List Str) : TS := fun D σ H => ∃ (a C : Addr) (ws : List V), σ[0]? = some (some (.ref a)) ∧ SlotsAre σ 1 ws ∧ ws.length = fs.length ∧ OexG K C b ∧
  (∀ f ∈ fs, PySem.W.findIn K (.ref C) f = some none) ∧ H a = some (exo a C none) ∧ ∀ d, H d = none → d ≠ a → D.nx σ (upd (upd H d (exd d (addF fs ws []))) a (exo a C (some d)))
theorem init_walk {b : XB} {B : Str} (hb : XBok b) (hg : Gl X B) (hdb : (B == ("__debug__" : Str)) = false) (hB : BaseAt X b B) (h0 : X.N[0]? = some ("self" : Str)) (l0 : X.env.scope.names.lookup ("self" : Str) = some .local) {f : Str} {fs : List Str} {body : List Stmt}
    (h : initB B (f :: fs) body = true) (L : LocFrom X 1 (f :: fs)) (h9 : fs.length ≤ 800) : PSs X body (tInitW X.K b (f :: fs)) := by
  unfold initB at h
  split at h
  · rename_i bn p1 m p2 s p3 c k1 k2 p4 p5 r
    simp only [Bool.and_eq_true, decide_eq_true_eq] at h
    obtain ⟨⟨⟨⟨hli, rfl⟩, rfl⟩, rfl⟩, hr⟩ := h
    cases r with
    | nil => simp [asgsB] at hr
    | cons st r =>
      unfold asgsB at hr
      split at hr
      · rename_i h1; cases h1
      · rename_i f' fs' s ps g pa hh ph pp r h1 h2
        cases h1; cases h2
        simp only [Bool.and_eq_true, decide_eq_true_eq, Bool.not_eq_true', decide_eq_false_iff_not] at hr
        obtain ⟨⟨⟨⟨rfl, rfl⟩, rfl⟩, hcd⟩, hr⟩ := hr
        obtain ⟨n1, n2, n3, n4⟩ := L
        refine PSs.imp (pss_cons (ps_expr (pe_initG hb hg hdb hB (pa_cons (pe_var h0 (.inl l0)) (pa_cons pe_str pa_nil)) (by rfl) hli (by rfl) (by rfl)) (by rfl)) (pss_cons (ps_ostG (pe_var h0 (.inl l0)) (pe_var n1 (.inl n2) n3 (by simpa using hcd)) (by rfl)) (asgs_walk h0 l0 fs 2 r hr n4))) fun D σ H ⟨a, C, ws, e0, sl, ln, T, nf, ha, q⟩ => ?_
        cases ws with
        | nil => simp at ln
        | cons w ws =>
          obtain ⟨s1, s2⟩ := sl
          refine ⟨.ref a, e0, ?_⟩
          refine ⟨a, C, [.str c], rfl, by simp, T, ha, ?_⟩
          refine ⟨w, s1, .ref a, e0, a, C, b, rfl, T, nf _ List.mem_cons_self, .inl ⟨ha, fun dx nx ne => ?_⟩⟩
          refine ⟨a, C, b, dx, [(_, w)], ws, e0, s2, by simpa using ln, T, fun f hf => nf f (List.mem_cons_of_mem _ hf), Ne.symm ne, upd_same, by rw [upd_ne ne, upd_same], by simp; omega, ?_⟩
          have z := q dx nx ne
          have e : upd (upd (upd H dx (exd dx [(hh, w)])) a (exo a C (some dx))) dx (exd dx (addF fs ws [(hh, w)])) = upd (upd H dx (exd dx (addF (hh :: fs) (w :: ws) []))) a (exo a C (some dx)) := by
            funext y
            by_cases y1 : y = dx
            · subst y1; rw [upd_same, upd_ne ne, upd_same]; rfl
            · rw [upd_ne y1]
              by_cases y2 : y = a
              · subst y2; rw [upd_same, upd_same]
              · rw [upd_ne y2, upd_ne y2, upd_ne y1, upd_ne y1]
          rw [e]
          exact z
      · cases hr
  · cases h
end

/-- what __init__ promises -/
def spInit (K : PySem.W.Frag) (b : XB) (fs : List Str) : Sp := fun vs H Q _ => ∃ (a C : Addr) (ws : List V), vs = .ref a :: ws ∧ ws.length = fs.length ∧ OexG K C b ∧ (∀ f ∈ fs, PySem.W.findIn K (.ref C) f = some none) ∧ H a = some (exo a C none) ∧
  ∀ d, H d = none → d ≠ a → Q .non (upd (upd H d (exd d (fs.zip ws).reverse)) a (exo a C (some d)))
theorem slots_start {ps : List Str} : ∀ (ws pre : List V) (k : Nat), SlotsAre ((pre ++ ws).map some ++ List.replicate k none) pre.length ws
  | [], _, _ => trivial
  | w :: ws, pre, k => by
    refine ⟨by rw [List.getElem?_append_left (by simp), List.getElem?_map, List.getElem?_append_right (Nat.le_refl _)]; simp, ?_⟩
    have z := slots_start (ps := ps) ws (pre ++ [w]) k
    rw [List.append_assoc] at z
    simpa using z
def locsB (sc : Scope) : List Str → Bool
  | [] => true
  | f :: fs => (match sc.names.lookup f with
    | some .local => true
    | _ => false) && !decide (f = "__debug__") && locsB sc fs
theorem locsB_ok {X : Cx} : ∀ (fs : List Str) (i : Nat), locsB X.env.scope fs = true → (∀ j, fs[j]? = X.N[i + j]?.bind fun x => if j < fs.length then some x else none) → LocFrom X i fs
  | [], _, _, _ => trivial
  | f :: fs, i, h, e => by
    simp only [locsB, Bool.and_eq_true, Bool.not_eq_true', decide_eq_false_iff_not] at h
    refine ⟨?_, ?_, by simpa using h.1.2, locsB_ok fs (i + 1) h.2 fun j => ?_⟩
    · have z := e 0
      simp at z
      cases q : X.N[i]? with
      | none => rw [q] at z; cases z
      | some y => rw [q] at z; simpa using z.symm
    · have z := h.1.1
      split at z
      · assumption
      · cases z
    · have z := e (j + 1)
      rw [List.getElem?_cons_succ, show i + (j + 1) = i + 1 + j by omega] at z
      simpa using z
section
variable {P : Program} {w : World} {K : PySem.W.Frag} {mg : Str → Option Value} {base : Heap}
theorem init_ok {fI : Addr} {qual : Str} {params : Arguments} {body : List Stmt} {scope : Scope} {fd : FuncData} {b : XB} {B f : Str} {fs : List Str} (F : FunD K "__init__" qual params body scope [] [] fI fd) (S : FnScope ("self" :: f :: fs) ("self" :: f :: fs) scope)
    (hb : XBok b) (hg : scope.names.lookup B = some .globalImplicit) (hdb : (B == ("__debug__" : Str)) = false)
    (hB : (mg B = none ∧ B ≠ "__name__" ∧ bootBuiltins B = some (.type b.name) ∧ PySem.W.findCls K (.type b.name) (.type "type") "__init__" = some (.val (.builtin b.initId))) ∨
      ∃ CB : Addr, mg B = some (.ref CB) ∧ PySem.W.readsIn K CB (.type "type") = true ∧ PySem.W.specialIn K (.ref CB) "__getattribute__" = some (some (.builtin "type.__getattribute__")) ∧ PySem.W.findCls K (.ref CB) (.type "type") "__init__" = some (.val (.builtin b.initId)))
    (h : initB B (f :: fs) body = true) (hl : locsB scope ("self" :: f :: fs) = true) (h9 : fs.length ≤ 800) : FnOk P w K mg base CX0 1 fI fd ("self" :: f :: fs) (spInit K b (f :: fs)) := by
  have hlen : ∀ vs H Q E, spInit K b (f :: fs) vs H Q E → vs.length = ("self" :: f :: fs : List Str).length := fun vs H Q E ⟨a, C, ws, e, l, _⟩ => by subst e; simpa using l
  refine F.ok S hlen fun cdv A outer s H vs Q E hr ⟨a, C, ws, ev, hw, T, nf, ha, q⟩ => ?_
  subst ev
  have hl' := hl
  simp only [locsB, Bool.and_eq_true] at hl'
  refine ⟨tInitW K b (f :: fs), init_walk (X := cxOf CX0 P w K mg base ("self" :: f :: fs) qual scope fI cdv A outer s H E) hb hg hdb ?_ rfl ?_ h (locsB_ok (X := cxOf CX0 P w K mg base ("self" :: f :: fs) qual scope fI cdv A outer s H E) _ 1 (by simp only [locsB, Bool.and_eq_true]; exact hl'.2) fun j => ?_) h9, ?_⟩
  · rcases hB with ⟨h1, h2, h3, h4⟩ | ⟨CB, h1, h2, h3, h4⟩
    · exact .blt h1 h2 h3 h4
    · exact .own h1 h2 h3 h4
  · have z := hl'.1.1
    split at z
    · assumption
    · cases z
  · show (f :: fs)[j]? = (("self" :: f :: fs : List Str)[1 + j]?).bind _
    rw [show 1 + j = j + 1 by omega, List.getElem?_cons_succ]
    cases q : (f :: fs)[j]? with
    | none => rfl
    | some y => rw [Option.bind_some, if_pos (List.getElem?_eq_some_iff.mp q).1]
  · refine ⟨a, C, ws, by simp [L2.start], ?_, hw, T, nf, ha, fun d nd ne => ?_⟩
    · have z := slots_start (ps := []) ws [.ref a] (("self" :: f :: fs : List Str).length - ([V.ref a] ++ ws).length)
      exact z
    · have z := q d nd ne
      rw [addF_eq, List.append_nil]
      exact z
end
end DI

set_option Elab.async false
set_option linter.all false
set_option maxRecDepth 100000
set_option maxHeartbeats 4000000
/-! DIRB: raise, try .. except, isinstance and fields of a caught exception: actions and rules. -/
namespace DI
open PySem PySem.Spec L2
open PyProof.Rows hiding St

/-- a class that is asked for -/
inductive CK where
  | own (j : Nat) | ty (n : String)
  deriving DecidableEq
/-- how an exception class is made: no own __init__ (a text is handed in) | these fields -/
inductive XC where
  | plain | own (fs : List Str)
abbrev Isa := Nat → CK → Option Bool

/-! ### raise -/
def sThrow (k : Nat) : SM := fun r m => .exc k [] r m
def sRaise (k : Nat) (fs : List Str) (a : M (List D)) : SM := fun r m => .of r (a r m) fun ds m1 => .exc k (fs.zip ds).reverse r m1
/-- the error's own dict is frozen -/
def WantX (Q : XK) : XK := fun cls d H => match d with
  | none => Q cls none H
  | some a => ∃ fs, H a = some (.xd fs) ∧ ∀ o, Q cls (some a) (upd H a (.frz o (.xd fs)))
theorem pmk_frz {X : Cx} {e : Expr} {t : St → Hp → XK → Prop} (h : PMk X e t) : PMk X e (fun σ H Q => t σ H (WantX Q)) := by
  intro pins s σ H Q I q
  refine thn (h pins s σ H _ I q) fun u s1 ⟨a, oe, vs, sI, H', cls, d, e1, J, k, hne, ha, hz, hd, h1, na, os, ag, r, w⟩ => ?_
  cases d with
  | none => exact ⟨a, oe, vs, sI, H', cls, none, e1, J, k, hne, ha, hz, hd, h1, na, os, ag, r, w⟩
  | some dd =>
    obtain ⟨fs, hx, w⟩ := w
    have ok : ObjOk X.prog X.w H' sI.heap dd (.xd fs) := J.hok dd _ hx
    obtain ⟨mA, ⟨o, es, ep, ho, hr⟩, rel⟩ := ok
    have J2 := frozen_inv J hx (fun _ z => nomatch z) (fun _ _ z => nomatch z) (fun _ z => nomatch z) (fun _ z => nomatch z) ho
    exact ⟨a, oe, vs, sI, _, cls, some dd, e1, J2, k, hne, ha, hz, hd, h1, by rw [upd_ne (fun z => by rw [z, hx] at na; cases na)]; exact na, os, ag, r, w o⟩

/-- what the class of a caught exception must say -/
structure ExC (K : PySem.W.Frag) (C : Addr) : Prop where
  ic : (PySem.W.clsIn K C).isSome = true
  ga : PySem.W.findIn K (.ref C) "__getattribute__" = some (some (.builtin "BaseException.__getattribute__"))
  gg : PySem.W.findIn K (.ref C) "__getattr__" = some none
  exC : PySem.W.subIn K (.ref C) (.type "BaseException") = some true
  hd : PySem.W.hasDictIn K C = true
  ha : PySem.W.findIn K (.ref C) "__class__" = some (some (.builtin "object.__class__"))
  hn : PySem.W.specialIn K (.builtin "object.__class__") "__get__" = some (some (.builtin "getset_descriptor.__get__"))
  ht : PySem.W.takesIn K (.builtin "object.__class__") = some true
  hm : PySem.W.mroIn K C (.type "object") = some true
/-- what the written part says of the class of number k -/
def XcOk (P : Program) (w : World) (K : PySem.W.Frag) (mg : Str → Option Value) (base : Heap) (ca : Nat → Option Addr) (k : Nat) : XC → Prop
  | .plain => ∃ (C : Addr) (b : XB), ca k = some C ∧ XBok b ∧ PySem.W.excIn K C b.tail b.newId = true ∧ PySem.W.keepIn K (.ref C) = true ∧ PySem.W.subIn K (.ref C) (.type "BaseException") = some true ∧ PySem.W.typeIn K (.ref C) = some (.type "type")
  | .own fs => ∃ (C fI : Addr) (b : XB) (fd : FuncData) (ps : List Str), ca k = some C ∧ OexG K C b ∧ PySem.W.findIn K (.ref C) "__init__" = some (some (.ref fI)) ∧ PySem.W.typeIn K (.ref fI) = some (.type "function") ∧ (∀ f ∈ fs, PySem.W.findIn K (.ref C) f = some none) ∧
    FnOk P w K mg base CX0 1 fI fd ps (spInit K b fs) ∧ Binds K fd ps [] ∧ fs.length ≤ 900 ∧ ExC K C
theorem RDs.rev {G : Gx} {t : List Addr} {H : Hp} : ∀ {ds : List D} {vs : List V}, RDs G t H ds vs → RDs G t H ds.reverse vs.reverse
  | _, _, .nil => .nil
  | _, _, .cons a b => by rw [List.reverse_cons, List.reverse_cons]; exact (RDs.rev b).append (.cons a .nil)
section
variable {X : Cx} {G : Gx} {W : WX} {pos p pc : Pos} {x : Str} {k : Nat} {C : Addr}
theorem di_throw (hc : X.calm = true) (tk : Takes X W) (xc : XcOk X.prog X.w X.K X.mg X.base G.ca k .plain) (hg : Gl X x) (hm : ∀ C, G.ca k = some C → X.mg x = some (.ref C)) (hdb : (x == ("__debug__" : Str)) = false) {m : Str} {j : Nat} {p2 : Pos} :
    PS X (.Raise (some (.Call (.Name x p) [.Constant (.str m) j p2] [] pc)) none pos) (RdS G W (sThrow k)) := by
  obtain ⟨C, b, hC, hb, q, kC, bC, tC⟩ := xc
  refine PS.imp (ps_raise hc tk (pmk_own hb.F q (hm C hC) kC (raises_own bC tC) hg hdb)) fun E s H ⟨r, μ, t, se, ss, kk⟩ => ?_
  exact kk _ _ s H t (Stp.refl _ _) se ss ⟨⟨C, hC, rfl⟩, .inl ⟨rfl, rfl⟩⟩
theorem di_raise (hc : X.calm = true) (tk : Takes X W) {fs : List Str} (xc : XcOk X.prog X.w X.K X.mg X.base G.ca k (.own fs)) (hr : Room 2 X.A) (hg : Gl X x) (hm : ∀ C, G.ca k = some C → X.mg x = some (.ref C)) (hdb : (x == ("__debug__" : Str)) = false)
    {e : Expr} {es : List Expr} {ms : M (List D)} (ha : PA X (e :: es) (RdA G W ms)) (hn : ∀ r m xs m1, ms r m = .ok xs m1 → xs.length = fs.length) (he : starEach (e :: es) X.env = (false, eval e X.env) :: starEach es X.env) (hpl : (backTo pc (starEach es X.env)).any (·.1) = false) :
    PS X (.Raise (some (.Call (.Name x p) (e :: es) [] pc)) none pos) (RdS G W (sRaise k fs ms)) := by
  obtain ⟨C, fI, b, fd, ps, hC, T, iC, tI, nf, F1, hb, h9, _⟩ := xc
  refine PS.imp (ps_raise hc tk (pmk_frz (pmk_oexG T iC tI F1 hr hb pass0 hg (hm C hC) ha hdb he hpl))) fun E s H ⟨r, μ, t, se, ss, kk⟩ => ?_
  refine ⟨r, μ, t, se, ss, ?_⟩
  unfold sRaise at kk
  cases e1 : ms r μ with
  | stuck => rw [e1] at kk; exact kk
  | exc _ _ _ => rw [e1] at kk; exact fun cls da H' t' ex ss' rx => kk cls da s H' t' ex (se.mono ex.le ex.ex) ss' rx
  | ok ds m1 =>
    rw [e1] at kk
    simp only [RS.of] at kk
    intro vs H1 t1 ex ss1 rds
    have ln := hn _ _ _ _ e1
    have lv : vs.length = fs.length := by rw [← rds.length]; exact ln
    refine ⟨by rw [lv]; omega, fun a na => ⟨a, C, vs, rfl, lv, T, nf, upd_same, fun d nd ne => ⟨rfl, d, (fs.zip vs).reverse, upd_same, by rw [upd_ne ne, upd_same], by rw [upd_ne ne] at nd; exact nd, ?_⟩⟩⟩
    have nd1 : H1 d = none := by rw [upd_ne ne] at nd; exact nd
    have e2 : upd (del (upd (upd (upd H1 a (exo a C none)) d (exd d (fs.zip vs).reverse)) a (exo a C (some d))) a) d (.xd (fs.zip vs).reverse) = upd H1 d (.xd (fs.zip vs).reverse) := by
      funext y
      by_cases y1 : y = d
      · subst y1; rw [upd_same, upd_same]
      · rw [upd_ne y1, upd_ne y1]
        by_cases y2 : y = a
        · subst y2; rw [del_same, na]
        · rw [del_ne y2, upd_ne y2, upd_ne y1, upd_ne y2]
    show WantX (fun cls d H' => W cls d s H') (.ref C) (some d) _
    rw [e2]
    refine ⟨_, upd_same, fun o => ?_⟩
    rw [upd_upd]
    refine kk _ _ s _ t1 (ex.trans (Stp.fresh nd1)) ((se.mono ex.le ex.ex).mono (Le.refl _) (Ext.new nd1)) (ss1.new nd1) ⟨⟨C, hC, rfl⟩, .inr ⟨d, _, o, rfl, upd_same, ?_, ?_⟩⟩
    · rw [List.map_reverse, List.map_reverse, List.map_fst_zip (by omega), List.map_fst_zip (by omega)]
    · have : RDs G t1 (upd H1 d (.frz o (.xd (fs.zip vs).reverse))) ds vs := rds.mono (Le.refl _) (Ext.new nd1)
      rw [List.map_reverse, List.map_reverse, List.map_snd_zip (by omega), List.map_snd_zip (by omega)]
      exact this.rev
end

/-! ### a caught exception -/
theorem RX.mono {G : Gx} {t t' : List Addr} {H H' : Hp} (le : Le t t') (e : Ext H H') {k : Nat} {fs : List (Str × D)} {cls : Value} {da : Option Addr} (h : RX G t H k fs cls da) : RX G t' H' k fs cls da := by
  obtain ⟨h1, h2⟩ := h
  refine ⟨h1, ?_⟩
  rcases h2 with h2 | ⟨a, vs, o, e1, e2, r⟩
  · exact .inl h2
  · exact .inr ⟨a, vs, o, e1, e.frz _ _ _ e2, r.mono le e⟩
def ckV (ca : Nat → Option Addr) : CK → Option V
  | .own j => (ca j).map .ref
  | .ty n => some (.ty n)
def ckU (ca : Nat → Option Addr) : CK → Option Value
  | .own j => (ca j).map .ref
  | .ty n => some (.type n)
/-- the table of classes is right -/
def IsaOk (K : PySem.W.Frag) (ca : Nat → Option Addr) (isa : Isa) : Prop := ∀ k c b, isa k c = some b → ∃ (C : Addr) (cv : Value), ca k = some C ∧ ExC K C ∧ ckU ca c = some cv ∧ PySem.W.kitOne K (.ref C) cv = some b ∧ PySem.W.exmOne K (.ref C) cv = some b
def isAny (isa : Isa) (k : Nat) : List CK → Option Bool
  | [] => some false
  | c :: r => match isa k c, isAny isa k r with
    | some b, some d => some (b || d)
    | _, _ => none
def mIs (isa : Isa) (k : Nat) (cs : List CK) : M D := fun _ m => match isAny isa k cs with
  | some b => .ok (.bl b) m
  | none => .stuck
def fokOf (xc : List (Nat × XC)) (k : Nat) (f : Str) : Bool := match xc.lookup k with
  | some (.own fs) => decide (f ∈ fs)
  | _ => false
def mFld (xc : List (Nat × XC)) (k : Nat) (fs : List (Str × D)) (f : Str) : M D := fun _ m => if fokOf xc k f = true then (match fs.lookup f with
  | some d => .ok d m
  | none => .stuck) else .stuck
/-- the exception that a suite holds: its name, its slot, its class, its fields -/
structure XIn (G : Gx) (X : Cx) (n : Str) (i k : Nat) (fs : List (Str × D)) : Prop where
  nm : X.N[i]? = some n
  vis : Vis X.env.scope n
  o1 : (n == ("__debug__" : Str)) = false
  o2 : (n == ("__classdict__" : Str)) = false
  ex : ∃ (a : Addr) (oe : Obj) (cls : Value) (d : Option Addr), (a, oe) ∈ X.pn ∧ Zc cls d oe ∧ (∃ vs, oe.data = .fields vs) ∧ ∀ s t H, G.J s t H → s[i]? = some (some (.ref a)) ∧ RX G t H k fs cls d
/-- the object of the exception -/
theorem exc_inst {X : Cx} {G : Gx} {pins : List (Addr × Obj)} {σ : St} {H : Hp} {s : Shared} {t : List Addr} {a C : Addr} {oe : Obj} {d : Option Addr} {k : Nat} {fs : List (Str × D)} (I : Inv X pins σ H s) (hp : (a, oe) ∈ X.pn) (hz : Zc (.ref C) d oe) (hf : ∃ vs, oe.data = .fields vs)
    (rx : RX G t H k fs (.ref C) d) : ∃ od, PySem.W.InstAt s.heap a oe C od ∧ (d = none → od = none) ∧ ∀ dd, d = some dd → ∃ o, od = some o ∧ s.heap.get? dd = some o := by
  obtain ⟨ha, _⟩ := I.pin (a, oe) (List.mem_append_left _ hp)
  obtain ⟨vs, hd⟩ := hf
  obtain ⟨z1, z2⟩ := hz
  have no : PySem.W.notCls oe = true := by unfold PySem.W.notCls; rw [hd] <;> rfl
  rcases rx.2 with ⟨_, rfl⟩ | ⟨dd, us, o, rfl, hx, _⟩
  · exact ⟨none, ⟨ha, z1, no, by rw [z2]; trivial⟩, fun _ => rfl, fun dd z => nomatch z⟩
  · have ok : s.heap.get? dd = some o := (I.hok dd _ hx).1
    exact ⟨some o, ⟨ha, z1, no, by rw [z2]; exact ok⟩, (fun z => nomatch z), fun d2 z => (by cases z; exact ⟨o, rfl, ok⟩)⟩
def rIsX (K : PySem.W.Frag) (C a : Addr) (ok : Hp → Prop) : List V → Hp → VK → Prop := fun xs H Q => ok H ∧ ∃ b, ((∃ (c : V) (cv : Value), xs = [.ref a, c] ∧ (∀ u, RelV c u → u = cv) ∧ PySem.W.kitOne K (.ref C) cv = some b) ∨
  (∃ (tp : Addr) (cs : List V) (cvs : List Value), xs = [.ref a, .ref tp] ∧ SqT K H tp cs ∧ (∀ us, Vals cs us → us = cvs) ∧ PySem.W.kitAny K (.ref C) cvs = some b)) ∧ Q (.bl b) H
theorem call_isX {X : Cx} {G : Gx} {a C : Addr} {oe : Obj} {d : Option Addr} {k : Nat} {fs : List (Str × D)} (T : ExC X.K C) (hp : (a, oe) ∈ X.pn) (hz : Zc (.ref C) d oe) (hf : ∃ vs, oe.data = .fields vs) :
    CallR X (.builtin "isinstance") (rIsX X.K C a fun H => ∃ t, RX G t H k fs (.ref C) d) := by
  intro pins s σ H xs us Q I r h
  obtain ⟨⟨t, rx⟩, b, h, q⟩ := h
  obtain ⟨od, J, _, _⟩ := exc_inst I hp hz hf rx
  have Z : PySem.W.KitX X.K (.ref a) (.ref C) (fun h => PySem.W.InstAt h a oe C od) := PySem.W.kitx_exc T.ic T.ga T.gg T.exC T.ha T.hn T.ht T.hm
  rcases h with ⟨c, cv, rfl, hcv, e⟩ | ⟨tp, cs, cvs, rfl, hq, hcv, e⟩
  · cases r with
    | cons rx rr =>
      cases rr with
      | cons rt rr =>
        cases rr
        cases rx
        have ec := hcv _ rt
        subst ec
        exact PySem.W.kia_one Z I.kIn J e (fun z => nomatch z) fun tk => ⟨.bl b, H, I.kept (t' := tk) fun _ _ z => z, rfl, q⟩
  · cases r with
    | cons rx rr =>
      cases rr with
      | cons rt rr =>
        cases rr
        cases rx
        cases rt
        obtain ⟨its, rv, ⟨o, he, hc, n, hd⟩, _⟩ := I.tuple hq
        have ec := hcv _ rv
        subst ec
        obtain ⟨o1, o2, o3, o4⟩ := o
        dsimp only at hc hd
        subst hc hd
        exact PySem.W.kia_tup Z I.kIn J he e (fun z => nomatch z) fun tk => ⟨.bl b, H, I.kept (t' := tk) fun _ _ z => z, rfl, q⟩
/-- the classes that are asked for, as they are written -/
def CkAt (X : Cx) (ca : Nat → Option Addr) (x : Str) (c : CK) : Prop := Gl X x ∧ (x == ("__debug__" : Str)) = false ∧ x ≠ "__name__" ∧ match c with
  | .own j => ∃ C, ca j = some C ∧ X.mg x = some (.ref C)
  | .ty n => X.mg x = none ∧ bootBuiltins x = some (.type n)
theorem pe_ck {X : Cx} {ca : Nat → Option Addr} {x : Str} {c : CK} {pos : Pos} (h : CkAt X ca x c) : ∃ v u, ckV ca c = some v ∧ ckU ca c = some u ∧ (∀ u', RelV v u' → u' = u) ∧ PE X (.Name x pos) (tC v) := by
  obtain ⟨hg, hd, hn, h⟩ := h
  cases c with
  | own j =>
    obtain ⟨C, hC, hm⟩ := h
    exact ⟨.ref C, .ref C, by show (ca j).map V.ref = _; rw [hC]; rfl, by show (ca j).map Value.ref = _; rw [hC]; rfl, fun u' z => z, pe_glob hg hm rfl hd⟩
  | ty n => exact ⟨.ty n, .type n, rfl, rfl, fun u' z => z, pe_bltn hg h.1 h.2 rfl hn hd⟩
section
variable {X : Cx} {G : Gx} {W : WX} {pos p pn : Pos} {n : Str} {i k : Nat} {fs : List (Str × D)} {isa : Isa}
theorem isa_kit {K : PySem.W.Frag} {ca : Nat → Option Addr} {isa : Isa} (ok : IsaOk K ca isa) {k : Nat} {C : Addr} (hC : ca k = some C) : ∀ {cs : List CK} {us : List Value} {b : Bool}, isAny isa k cs = some b → cs.mapM (ckU ca) = some us → PySem.W.kitAny K (.ref C) us = some b
  | [], us, b, h, e => by
    cases h
    simp at e; subst e; rfl
  | c :: r, us, b, h, e => by
    unfold isAny at h
    cases e1 : isa k c with
    | none => rw [e1] at h; cases h
    | some b1 =>
      cases e2 : isAny isa k r with
      | none => rw [e1, e2] at h; cases h
      | some b2 =>
        rw [e1, e2] at h
        cases h
        obtain ⟨C', cv, h1, _, h2, h3, _⟩ := ok k c b1 e1
        rw [hC] at h1; cases h1
        rw [List.mapM_cons, h2] at e
        cases e3 : r.mapM (ckU ca) with
        | none => rw [e3] at e; cases e
        | some us' =>
          rw [e3] at e
          cases e
          have ih := isa_kit ok hC e2 e3
          show (match PySem.W.kitOne K (.ref C) cv with
            | some true => some true
            | some false => PySem.W.kitAny K (.ref C) us'
            | none => none) = _
          rw [h3]
          cases b1 with
          | true => rfl
          | false => rw [Bool.false_or]; exact ih
theorem di_isX1 (hxi : XIn G X n i k fs) (hisa : IsaOk X.K G.ca isa) (hg : Gl X "isinstance") (hm : X.mg "isinstance" = none) {x : Str} {c : CK} {pc : Pos} (hc : CkAt X G.ca x c) :
    PE X (.Call (.Name "isinstance" p) [.Name n pn, .Name x pc] [] pos) (RdE G W (mIs isa k [c])) := by
  obtain ⟨a, oe, cls, d, hp, hz, hf, hJ⟩ := hxi.ex
  obtain ⟨v, u, e1, e2, e3, e4⟩ := pe_ck (pos := pc) hc
  by_cases hcl : ∃ C, cls = .ref C ∧ ExC X.K C
  · obtain ⟨C, rfl, T⟩ := hcl
    refine PE.imp (pe_callB (call_isX (G := G) (k := k) (fs := fs) T hp hz hf) hg hm (by rfl) (pa_cons (pe_var hxi.nm hxi.vis hxi.o1 hxi.o2) (pa_cons e4 pa_nil)) (by decide) (by decide) (by rfl) (by rfl)) fun s H Q ⟨r, μ, t, se, ss, kk⟩ => ?_
    obtain ⟨h1, h2⟩ := hJ _ _ _ se.j
    obtain ⟨C', hC, ec⟩ := h2.1
    cases ec
    unfold mIs at kk
    cases ea : isAny isa k [c] with
    | none => rw [ea] at kk; exact kk.elim
    | some b =>
      rw [ea] at kk
      have kt := isa_kit hisa hC ea (us := [u]) (by simp [e2])
      refine ⟨.ref a, h1, ⟨t, h2⟩, b, .inl ⟨v, u, rfl, e3, ?_⟩, KE.ok_ kk ss (.bl b)⟩
      have : PySem.W.kitAny X.K (.ref C) [u] = some b := kt
      unfold PySem.W.kitAny at this
      split at this
      · rename_i z; cases this; exact z
      · rename_i z; cases this; exact z
      · cases this
  · refine ⟨fun pins s σ H Q I ⟨r, μ, t, se, ss, kk⟩ => ?_⟩
    exfalso
    obtain ⟨h1, h2⟩ := hJ _ _ _ se.j
    obtain ⟨C', hC, ec⟩ := h2.1
    unfold mIs at kk
    cases ea : isAny isa k [c] with
    | none => rw [ea] at kk; exact kk.elim
    | some b =>
      unfold isAny at ea
      cases e1 : isa k c with
      | none => rw [e1] at ea; cases ea
      | some b1 =>
        obtain ⟨C2, cv, z1, z2, _⟩ := hisa k c b1 e1
        rw [hC] at z1; cases z1
        exact hcl ⟨C', ec, z2⟩
end
end DI

set_option Elab.async false
set_option linter.all false
set_option maxRecDepth 100000
set_option maxHeartbeats 4000000
/-! DIRC: isinstance(e, (A, B)), e.f, try .. except. -/
namespace DI
open PySem PySem.Spec L2
open PyProof.Rows hiding St

/-- names of classes -/
inductive CksAt (X : Cx) (ca : Nat → Option Addr) : List Expr → List CK → Prop
  | nil : CksAt X ca [] []
  | cons {x : Str} {pc : Pos} {c : CK} {es : List Expr} {cs : List CK} : CkAt X ca x c → CksAt X ca es cs → CksAt X ca (.Name x pc :: es) (c :: cs)
theorem pa_cks {X : Cx} {ca : Nat → Option Addr} : ∀ {es : List Expr} {cs : List CK}, CksAt X ca es cs → ∃ vs us, cs.mapM (ckU ca) = some us ∧ vs.length = es.length ∧ (∀ us', Vals vs us' → us' = us) ∧ PA X es (fun σ H Q => Q vs H)
  | _, _, .nil => ⟨[], [], rfl, rfl, fun us' r => by cases r; rfl, PA.imp pa_nil fun s H Q h => h⟩
  | _, _, .cons (pc := pc) h r => by
    obtain ⟨v, u, e1, e2, e3, e4⟩ := pe_ck (pos := pc) h
    obtain ⟨vs, us, f1, f2, f3, f4⟩ := pa_cks r
    refine ⟨v :: vs, u :: us, by rw [List.mapM_cons, e2, f1]; rfl, by rw [List.length_cons, List.length_cons, f2], fun us' r => ?_, PA.imp (pa_cons e4 f4 (by rfl)) fun s H Q h => h⟩
    cases r with
    | cons a b => rw [e3 _ a, f3 _ b]
theorem rf_look {G : Gx} {t : List Addr} {H : Hp} {f : Str} {dv : D} : ∀ {fs : List (Str × D)} {vs : List (Str × V)}, RF G t H fs vs → fs.lookup f = some dv → ∃ v, vs.lookup f = some v ∧ RD G t H dv v
  | [], _, _, el => nomatch el
  | (g, dg) :: fs, [], ⟨q1, _⟩, _ => by simp at q1
  | (g, dg) :: fs, (g', vg) :: vs, ⟨q1, q2⟩, el => by
    simp only [List.map_cons, List.cons.injEq] at q1
    obtain ⟨rfl, q1⟩ := q1
    cases q2 with
    | cons qa qb =>
      by_cases e : f = g
      · subst e
        simp [List.lookup] at el
        subst el
        exact ⟨vg, by simp [List.lookup], qa⟩
      · have ne : (f == g) = false := by simpa using e
        simp only [List.lookup, ne] at el ⊢
        exact rf_look ⟨q1, qb⟩ el
section
variable {X : Cx} {G : Gx} {W : WX} {pos p pn pa_ : Pos} {n : Str} {i k : Nat} {fs : List (Str × D)} {isa : Isa}
theorem di_isXT (hxi : XIn G X n i k fs) (hisa : IsaOk X.K G.ca isa) (hg : Gl X "isinstance") (hm : X.mg "isinstance" = none) {es : List Expr} {cs : List CK} {kt : Nat} (hne : cs ≠ []) (h100 : es.length ≤ 100) (hc : CksAt X G.ca es cs) :
    PE X (.Call (.Name "isinstance" p) [.Name n pn, .Tuple es kt pa_] [] pos) (RdE G W (mIs isa k cs)) := by
  obtain ⟨a, oe, cls, d, hp, hz, hf, hJ⟩ := hxi.ex
  obtain ⟨vs, us, e1, e2, e3, e4⟩ := pa_cks hc
  by_cases hcl : ∃ C, cls = .ref C ∧ ExC X.K C
  · obtain ⟨C, rfl, T⟩ := hcl
    refine PE.imp (pe_callB (call_isX (G := G) (k := k) (fs := fs) T hp hz hf) hg hm (by rfl) (pa_cons (pe_var hxi.nm hxi.vis hxi.o1 hxi.o2) (pa_cons (pe_tup e4) pa_nil)) (by decide) (by decide) (by rfl) (by rfl)) fun s H Q ⟨r, μ, t, se, ss, kk⟩ => ?_
    obtain ⟨h1, h2⟩ := hJ _ _ _ se.j
    obtain ⟨C', hC, ec⟩ := h2.1
    cases ec
    unfold mIs at kk
    cases ea : isAny isa k cs with
    | none => rw [ea] at kk; exact kk.elim
    | some b =>
      rw [ea] at kk
      have kt := isa_kit hisa hC ea e1
      refine ⟨.ref a, h1, by rw [e2, sizeLine_eq]; omega, fun tp np => ?_⟩
      exact ⟨⟨t, h2.mono (Le.refl t) (Ext.new np)⟩, b, .inr ⟨tp, vs, us, rfl, .inl (.inl upd_same), e3, kt⟩, KE.ok_ (kk.later (Stp.fresh np)) (ss.new np) (.bl b)⟩
  · refine ⟨fun pins s σ H Q I ⟨r, μ, t, se, ss, kk⟩ => ?_⟩
    exfalso
    obtain ⟨h1, h2⟩ := hJ _ _ _ se.j
    obtain ⟨C', hC, ec⟩ := h2.1
    unfold mIs at kk
    cases ea : isAny isa k cs with
    | none => rw [ea] at kk; exact kk.elim
    | some b =>
      cases cs with
      | nil => exact hne rfl
      | cons c cs =>
        unfold isAny at ea
        cases e1 : isa k c with
        | none => rw [e1] at ea; cases ea
        | some b1 =>
          obtain ⟨C2, cv, z1, z2, _⟩ := hisa k c b1 e1
          rw [hC] at z1; cases z1
          exact hcl ⟨C', ec, z2⟩
theorem di_fld (hxi : XIn G X n i k fs) {xc : List (Nat × XC)} {f : Str} (hisa : fokOf xc k f = true → ∀ C, G.ca k = some C → ExC X.K C ∧ PySem.W.findIn X.K (.ref C) f = some none) : PE X (.Attribute (.Name n pn) f pos) (RdE G W (mFld xc k fs f)) := by
  obtain ⟨a, oe, cls, d, hp, hz, hf, hJ⟩ := hxi.ex
  refine ⟨fun pins s σ H Q I ⟨r, μ, t, se, ss, kk⟩ => ?_⟩
  obtain ⟨h1, h2⟩ := hJ _ _ _ se.j
  obtain ⟨C, hC, ec⟩ := h2.1
  subst ec
  unfold mFld at kk
  split at kk
  rotate_left
  · exact kk.elim
  rename_i hfo
  obtain ⟨T, hno⟩ := hisa hfo C hC
  cases el : fs.lookup f with
  | none => rw [el] at kk; exact kk.elim
  | some dv =>
    rw [el] at kk
    obtain ⟨od, J, j1, j2⟩ := exc_inst I hp hz hf h2
    rcases h2.2 with ⟨rfl, _⟩ | ⟨dd, vs, o, rfl, hx, rf⟩
    · cases el
    obtain ⟨od', rfl, ho⟩ := j2 dd rfl
    have hob : ObjOk X.prog X.w H s.heap dd (.xd vs) := (I.hok dd _ hx).2
    obtain ⟨mA, hns, hr⟩ := hob
    obtain ⟨od2, ho2, hl⟩ := lookIn_ns hns
    rw [ho] at ho2; cases ho2
    -- the field's value
    obtain ⟨v, hv, rv⟩ := rf_look rf el
    obtain ⟨u, hu, ru⟩ := RelO.some_of (v := v) (o := mA f) (by rw [← hv]; exact hr f)
    refine attr_of (by rfl) (thn ((pe_var (X := X) (pos := pn) hxi.nm hxi.vis hxi.o1 hxi.o2).run pins s σ H (fun x H1 => x = .ref a ∧ H1 = H) I ⟨_, h1, rfl, rfl⟩) fun w s1 ⟨x, H1, I1, rx, ex, eh⟩ => ?_)
    subst ex eh
    obtain rfl : w = Value.ref a := rx
    obtain ⟨od3, J3, _, j3⟩ := exc_inst I1 hp hz hf ⟨⟨C, hC, rfl⟩, .inr ⟨dd, vs, o, rfl, hx, rf⟩⟩
    obtain ⟨od4, rfl, ho4⟩ := j3 dd rfl
    have hob : ObjOk X.prog X.w H1 s1.heap dd (.xd vs) := (I1.hok dd _ hx).2
    obtain ⟨mB, hnsB, hrB⟩ := hob
    obtain ⟨od5, ho5, hl5⟩ := lookIn_ns hnsB
    rw [ho4] at ho5; cases ho5
    obtain ⟨u2, hu2, ru2⟩ := RelO.some_of (v := v) (o := mB f) (by rw [← hv]; exact hrB f)
    exact PySem.HandSPX.exc_get I1.kIn J3 T.ga T.gg T.exC (PySem.W.findObj_own T.hd hno rfl (by rw [hl5, hu2])) (handed_of ru2) ⟨v, H1, I1.tok _, ru2, KE.ok_ kk ss rv⟩
end

/-! ### try .. except -/
/-- one clause: the class, the name's slot, the suite by the exception's class and fields -/
structure Cl where
  c : CK
  sl : Option Nat
  su : Nat → List (Str × D) → SM
/-- behind a suite its name is gone -/
def RS.gone (sl : Option Nat) : RS → RS := fun x => match sl with
  | none => (match x with
    | .exc .. => .stuck
    | x => x)
  | some i => (match x with
    | .nx r m => .nx (r.set i none) m
    | .bk r m => .bk (r.set i none) m
    | .ct r m => .ct (r.set i none) m
    | .ret d m => .ret d m
    | _ => .stuck)
def hdl (isa : Isa) : List Cl → Nat → List (Str × D) → SM
  | [], k, fs => fun r m => .exc k fs r m
  | c :: cs, k, fs => fun r m => match isa k c.c with
    | none => .stuck
    | some false => hdl isa cs k fs r m
    | some true => (match c.sl with
      | none => RS.gone none (c.su k fs r m)
      | some i => if i < r.length then RS.gone (some i) (c.su k fs (r.set i none) m) else .stuck)
def sTry (isa : Isa) (b : SM) (cs : List Cl) : SM := fun r m => match b r m with
  | .exc k fs r1 m1 => hdl isa cs k fs r1 m1
  | x => x

/-- what the clauses wish of an exception of the body -/
def wClauses (K : PySem.W.Frag) (Wout : WX) (D : Ends) : List (Value × Option Nat × (Addr → Value → Option Addr → TS)) → WX
  | [] => Wout
  | (c, none, ts) :: r => fun cls d σ H => ∃ b, PySem.W.exmOne K cls c = some b ∧ (b = true → ∀ a, H a = none → ts a cls d D σ H) ∧ (b = false → wClauses K Wout D r cls d σ H)
  | (c, some i, ts) :: r => fun cls d σ H => ∃ b, PySem.W.exmOne K cls c = some b ∧ (b = true → ∀ a, H a = none → ts a cls d { nx := fun σ' H' => D.nx (σ'.set i none) H', rt := D.rt, bk := fun σ' H' => D.bk (σ'.set i none) H', ct := fun σ' H' => D.ct (σ'.set i none) H' } (σ.set i (some (.ref a))) H) ∧
    (b = false → wClauses K Wout D r cls d σ H)
inductive HdsC (X : Cx) : List ExceptHandler → List (Value × Option Nat × (Addr → Value → Option Addr → TS)) → Prop
  | nil : HdsC X [] []
  | cons {x : Str} {c : Value} {ts : Addr → Value → Option Addr → TS} {b₀ : Stmt} {suite : List Stmt} {np pos' : Pos} {hds : List ExceptHandler} {l : List (Value × Option Nat × (Addr → Value → Option Addr → TS))} (hc : Names X x c)
      (hsu : ∀ (a : Addr) (oe : Obj) (cls : Value) (d : Option Addr) (pn : List (Addr × Obj)), Zc cls d oe → (∃ vs, oe.data = .fields vs) → PSs (X.suite a ((a, oe) :: pn)) (b₀ :: suite) (ts a cls d)) (r : HdsC X hds l) :
      HdsC X (.ExceptHandler (some (.Name x np)) none (b₀ :: suite) pos' :: hds) ((c, none, ts) :: l)
  | consN {x n : Str} {i : Nat} {c : Value} {ts : Addr → Value → Option Addr → TS} {b₀ : Stmt} {suite : List Stmt} {np pos' : Pos} {hds : List ExceptHandler} {l : List (Value × Option Nat × (Addr → Value → Option Addr → TS))} (hc : Names X x c) (hN : X.N.Nodup) (hi : X.N[i]? = some n) (hln : X.env.kindOf n = some .local)
      (hsu : ∀ (a : Addr) (oe : Obj) (cls : Value) (d : Option Addr) (pn : List (Addr × Obj)), Zc cls d oe → (∃ vs, oe.data = .fields vs) → PSs (X.suite a ((a, oe) :: pn)) (b₀ :: suite) (ts a cls d)) (r : HdsC X hds l) :
      HdsC X (.ExceptHandler (some (.Name x np)) (some n) (b₀ :: suite) pos' :: hds) ((c, some i, ts) :: l)
section
variable {X : Cx} {body : List Stmt} {h₀ : ExceptHandler} {hds : List ExceptHandler} {l : List (Value × Option Nat × (Addr → Value → Option Addr → TS))} {pos : Pos} {tb : WX → TS} {Wout : WX}
theorem ps_try_c (hs : X.stack = X.env :: X.outer) (hf : X.env.frame = some X.env.locals) (tk : Takes X Wout)
    (hb : ∀ (W : WX) (pn : List (Addr × Obj)) (xe : Value → Shared → Prop), Takes (X.tr pn xe) W → PassesOwn (model X.prog X.w) X.A X.env xe → PSs (X.tr pn xe) body (tb W))
    (hh : HdsC X (h₀ :: hds) l) : PS X (.Try body (h₀ :: hds) [] [] pos) (fun D σ H => tb (wClauses X.K Wout D l) D σ H) := by
  refine ⟨fun pins s σ H D I h => ?_⟩
  have ok := I.ok
  have hfr : X.A.frames = some (X.env :: X.outer) := by rw [ok.frames, hs]
  refine wpAny_Try_except ?_
  refine wpAny_mono ((hb (wClauses X.K Wout D l) (X.pn ++ pins) (fun e s₁ => wpAny (model X.prog X.w) X.A (noteFrame e X.env) (fun _ s₂ => wpAny (model X.prog X.w) X.A (setFlight e none) (fun _ s₃ =>
    wpAny (model X.prog X.w) X.A (handleBy e X.env (h₀ :: hds)) (SP X pins D) X.xe s₃) X.xe s₂) X.xe s₁) (fun u s' xx => ?_) PassesOwn.looking).run [] s σ H D (I.toTry _) h) (fun f s1 hsp => ?_) (fun e s1 he => he)
  · -- the catch
    obtain ⟨a, B, sI, pins', σ', H', cls, d, rfl, J', nb, up, sky, na, os, ag, w⟩ := xx
    have J : Inv X pins σ' H' sI := J'.ofTry ok
    have sky' : Sky B (X.env :: X.outer) a (Zc cls d) X.env.locals s'.heap := by rw [← hs]; exact sky
    show wpAny (model X.prog X.w) X.A (noteFrame (.ref a) X.env) _ _ _
    refine Sky.land Zc.steady hfr hf sky' fun h3 fl3 up3 => ?_
    have J3 : Inv X pins σ' H' { s' with heap := h3 } := J.landed nb fl3.1 (up.trans up3) os ag
    obtain ⟨oe3, vs3, he3, hz3, hd3⟩ := fl3.there
    have notFr : ∀ {h : Heap} {o : Obj} {vs : Array Value}, h.FunFrames B (X.env :: X.outer) → h.get? a = some o → o.data = .fields vs → a ∉ frs (X.env :: X.outer) := fun {h o vs} ff e dd hm => by
      obtain ⟨_, o', e', hnf⟩ := ff.mem hm
      rw [e] at e'; cases e'
      exact hnf _ dd
    have nfr := notFr fl3.2.2.1 he3 hd3
    have nL : a ≠ X.env.locals := fun z => nfr (List.mem_filterMap.mpr ⟨X.env, List.mem_cons_self, by rw [hf, z]⟩)
    have nF : a ∉ X.fs := fun hm => by
      obtain ⟨e, he, q⟩ := List.mem_filterMap.mp hm
      exact nfr (List.mem_filterMap.mpr ⟨e, List.mem_cons_of_mem _ he, q⟩)
    have S3 := J3.suite he3 hd3 na nL nF
    have LT : PySem.W.Looks (model X.prog X.w) h3 (typeOf (.ref a)) cls := fun A Q E s k q => wpAny_typeOf_ref (k _ _ he3) (by rw [hz3.1]; exact q)
    have test : ∀ {x : Str} {c : Value} {np : Pos} (hc : Names X x c) {Q : Value → Shared → Prop} {E : Value → Shared → Prop}, Q c { s' with heap := h3 } → wpAny (model X.prog X.w) (X.A.mark (some (.ref a))) (eval (.Name x np) X.env) Q E { s' with heap := h3 } := fun {x c np} hc {Q E} q => by
      obtain ⟨hg, hdbg, hm | ⟨hm, hv, hnn⟩⟩ := hc
      · exact ld_glob (X := X.suite a ((a, oe3) :: (X.pn ++ pins))) S3 hg hm q hdbg
      · exact ld_blt (X := X.suite a ((a, oe3) :: (X.pn ++ pins))) S3 hg hm hv q hnn hdbg
    have go : ∀ {hds' : List ExceptHandler} {l' : List (Value × Option Nat × (Addr → Value → Option Addr → TS))}, HdsC X hds' l' → wClauses X.K Wout D l' cls d σ' H' →
        wpAny (model X.prog X.w) X.A (handleBy (.ref a) X.env hds') (SP X pins D) X.xe { s' with heap := h3 } := by
      intro hds' l' hk
      induction hk with
      | nil =>
        intro w
        refine wpAny_handleBy_nil ?_
        obtain ⟨k1, k2, k3, oe, vs, T, oT, ts', he, hz, hd, h1, hr⟩ := id fl3
        unfold PySem.passOn
        refine wpAny_bind (wpAny_field he hd h1 ?_)
        rw [if_neg (show ¬ ((Value.ref T == Value.none) = true) from by simp)]
        have fin : wpAny (model X.prog X.w) X.A (setFlight (.ref a) X.env.frame) (fun _ s4 => wpAny (model X.prog X.w) X.A (throw (.ref a) : Sem Flow) (SP X pins D) X.xe s4) X.xe { s' with heap := h3 } := by
          rw [hf]
          refine PySem.HandSPX.setFlight_upZ fl3 fun h4 hh4 up4 => wpAny_throw (tk _ _ ?_)
          exact ⟨a, B, sI, pins, σ', H', cls, d, rfl, J, nb, (up.trans up3).trans up4, .inr (.inr (by rw [hs]; exact hh4)), na, os, ag, w⟩
        first
          | exact wpAny_bind (wpAny_pure (wpAny_bind fin))
          | exact wpAny_bind fin
      | @cons x c ts b₀ suite np pos' hds2 l2 hc hsu r ih =>
        intro w
        obtain ⟨b, hb1, hyes, hno⟩ := w
        refine wpAny_handleBy_cons (codeAny_handlers_test ?_) (by intro q; cases q)
        have LM := PySem.W.exm_one (M := model X.prog X.w) (J3.kIn) LT hb1
        refine test hc (LM.here ?_)
        cases b with
        | true =>
          refine codeAny_handlers_suite ?_
          refine PySem.HandSPX.lands_againZ fl3 fun h4 fl4 up4 => ?_
          have J4 : Inv X pins σ' H' { s' with heap := h4 } := J.landed nb fl4.1 ((up.trans up3).trans up4) os ag
          obtain ⟨oe4, vs4, he4, hz4, hd4⟩ := fl4.there
          have S4 := J4.suite he4 hd4 na nL nF
          refine wpAny_mono ((hsu a oe4 cls d (X.pn ++ pins) hz4 ⟨_, hd4⟩).run [] _ _ H' _ S4 (hyes rfl a na)) (fun f s6 hsp => ?_) (fun _ _ z => False.elim z)
          cases f with
          | next =>
            obtain ⟨σ6, H6, S6, q6⟩ := hsp
            exact ⟨_, _, S6.unsuite ok, q6⟩
          | brk =>
            obtain ⟨σ6, H6, S6, q6⟩ := hsp
            exact ⟨_, _, S6.unsuite ok, q6⟩
          | cont =>
            obtain ⟨σ6, H6, S6, q6⟩ := hsp
            exact ⟨_, _, S6.unsuite ok, q6⟩
          | ret u =>
            obtain ⟨v6, σ6, H6, S6, r6, q6⟩ := hsp
            exact ⟨_, _, _, S6.unsuite ok, r6, q6⟩
        | false =>
          show wpAny _ X.A (handleBy (.ref a) X.env hds2) _ _ _
          exact ih (hno rfl)
      | @consN x n i c ts b₀ suite np pos' hds2 l2 hc hN hi hln hsu r ih =>
        intro w
        obtain ⟨b, hb1, hyes, hno⟩ := w
        refine wpAny_handleBy_cons (codeAny_handlers_test ?_) (by intro q; cases q)
        have LM := PySem.W.exm_one (M := model X.prog X.w) (J3.kIn) LT hb1
        refine test hc (LM.here ?_)
        cases b with
        | true =>
          refine codeAny_handlers_suite_as ?_
          refine PySem.HandSPX.lands_againZ fl3 fun h4 fl4 up4 => ?_
          have J4 : Inv X pins σ' H' { s' with heap := h4 } := J.landed nb fl4.1 ((up.trans up3).trans up4) os ag
          obtain ⟨oe4, vs4, he4, hz4, hd4⟩ := fl4.there
          have S4 := J4.suite he4 hd4 na nL nF
          have hloc : L2.Loc X.env.scope n := .inl hln
          refine store_ok (X := X.suite a ((a, oe4) :: (X.pn ++ pins))) (v := .ref a) S4 hN hi hloc rfl (fun s5 S5 => ?_) (.inr hln)
          refine wpAny_mono ((hsu a oe4 cls d (X.pn ++ pins) hz4 ⟨_, hd4⟩).run [] s5 _ H' _ S5 (hyes rfl a na)) (fun f s6 hsp => ?_) (fun _ _ z => False.elim z)
          have end_ : ∀ {σ6 : St} {H6 : Hp} {Q : Shared → Prop}, Inv (X.suite a ((a, oe4) :: (X.pn ++ pins))) [] σ6 H6 s6 → (∀ s7, Inv X pins (σ6.set i none) H6 s7 → Q s7) →
              wpAny (model X.prog X.w) X.A (do bindName X.env n .none; unbindBehindTheSuite X.env n pos') (fun _ s7 => Q s7) X.xe s6 := fun {σ6 H6 Q} S6 hq => gone_ok (S6.unsuite ok) hN hi hln hq
          cases f with
          | next =>
            obtain ⟨σ6, H6, S6, q6⟩ := hsp
            exact end_ S6 fun s7 J7 => ⟨_, _, J7, q6⟩
          | brk =>
            obtain ⟨σ6, H6, S6, q6⟩ := hsp
            exact end_ S6 fun s7 J7 => ⟨_, _, J7, q6⟩
          | cont =>
            obtain ⟨σ6, H6, S6, q6⟩ := hsp
            exact end_ S6 fun s7 J7 => ⟨_, _, J7, q6⟩
          | ret u =>
            obtain ⟨v6, σ6, H6, S6, r6, q6⟩ := hsp
            exact end_ S6 fun s7 J7 => ⟨_, _, _, J7, r6, q6⟩
        | false =>
          show wpAny _ X.A (handleBy (.ref a) X.env hds2) _ _ _
          exact ih (hno rfl)
    exact go hh w
  · cases f with
    | next =>
      obtain ⟨σ', H', J', q⟩ := hsp
      exact wpAny_execs_nil ⟨σ', H', J'.ofTry ok, q⟩
    | brk =>
      obtain ⟨σ', H', J', q⟩ := hsp
      exact ⟨σ', H', J'.ofTry ok, q⟩
    | cont =>
      obtain ⟨σ', H', J', q⟩ := hsp
      exact ⟨σ', H', J'.ofTry ok, q⟩
    | ret u =>
      obtain ⟨v, σ', H', J', r, q⟩ := hsp
      exact ⟨v, σ', H', J'.ofTry ok, r, q⟩
end
end DI

set_option Elab.async false
set_option linter.all false
set_option maxRecDepth 100000
set_option maxHeartbeats 4000000
/-! DIRD: try .. except by actions. -/
namespace DI
open PySem PySem.Spec L2
open PyProof.Rows hiding St

/-- the world within an except suite -/
def Gsu (G : Gx) (sl : Option Nat) (a k : Nat) (fs : List (Str × D)) (cls : Value) (d : Option Addr) : Gx where
  K := G.K
  fa := G.fa
  ca := G.ca
  J := fun s t H => (∀ i, sl = some i → s[i]? = some (some (.ref a))) ∧ RX G t H k fs cls d ∧ G.J s t H
  js := fun s t H t' H' le e h => ⟨h.1, h.2.1.mono le e, G.js s t H t' H' le e h.2.2⟩
  fr := fun i => !decide (sl = some i) && G.fr i
  jf := fun s t H i o h q => by
    rw [Bool.and_eq_true, Bool.not_eq_true', decide_eq_false_iff_not] at h
    exact ⟨fun j hj => by rw [List.getElem?_set_ne (fun z => h.1 (by rw [hj, z]))]; exact q.1 j hj, q.2.1, G.jf s t H i o h.2 q.2.2⟩
section
variable {G G' : Gx} {t : List Addr} {H : Hp}
theorem OR.cg (hK : G.K = G'.K) (hf : G.fa = G'.fa) (hc : G.ca = G'.ca) {o : O} {p : Addr} (h : OR G t H o p) : OR G' t H o p := by
  cases o with
  | lst ds => obtain ⟨vs, a, b⟩ := h; exact ⟨vs, a, b.cg hK hf hc⟩
  | ins c fs => obtain ⟨C, dx, vs, a, b, r⟩ := h; exact ⟨C, dx, vs, by rw [← hc]; exact a, b, r.1, r.2.cg hK hf hc⟩
  | dct kds => obtain ⟨vs, a, b⟩ := h; exact ⟨vs, a, b.1, b.2.cg hK hf hc⟩
  | dead => trivial
theorem SS.cg (hK : G.K = G'.K) (hf : G.fa = G'.fa) (hc : G.ca = G'.ca) {m : Sto} (h : SS G t H m) : SS G' t H m :=
  ⟨h.len, fun l o q => let ⟨p, a, b⟩ := h.ob l o q; ⟨p, a, b.cg hK hf hc⟩, h.kn, h.inj⟩
theorem SE.cg (hK : G.K = G'.K) (hf : G.fa = G'.fa) (hc : G.ca = G'.ca) {r : Env} {s : St} (h : SE G t H r s) (hj : G'.J s t H) : SE G' t H r s :=
  ⟨h.len, fun i d q => let ⟨v, a, b⟩ := h.at_ i d q; ⟨v, a, b.cg hK hf hc⟩, hj⟩
theorem RX.cg (hK : G.K = G'.K) (hf : G.fa = G'.fa) (hc : G.ca = G'.ca) {k : Nat} {fs : List (Str × D)} {cls : Value} {da : Option Addr} (h : RX G t H k fs cls da) : RX G' t H k fs cls da := by
  obtain ⟨⟨C, a, b⟩, h2⟩ := h
  refine ⟨⟨C, by rw [← hc]; exact a, b⟩, ?_⟩
  rcases h2 with h2 | ⟨x, vs, o, e1, e2, r⟩
  · exact .inl h2
  · exact .inr ⟨x, vs, o, e1, e2, r.1, r.2.cg hK hf hc⟩
theorem SE.none {r : Env} {s : St} {i : Nat} {o : Option V} (h : SE G t H r s) (hfr : G.fr i = true) : SE G t H (r.set i none) (s.set i o) := by
  refine ⟨by rw [List.length_set, List.length_set]; exact h.len, fun j d q => ?_, G.jf _ _ _ _ _ hfr h.j⟩
  by_cases hj : i = j
  · subst hj
    by_cases hl : i < r.length
    · rw [List.getElem?_set_self hl] at q; cases q
    · rw [List.getElem?_eq_none (by simpa using hl)] at q; cases q
  · rw [List.getElem?_set_ne hj] at q ⊢
    exact h.at_ j d q
end
section
variable {G : Gx} {sl : Option Nat} {a k : Nat} {fs : List (Str × D)} {cls : Value} {d : Option Addr} {t : List Addr} {H : Hp} {E : Ends}
theorem ks_su {x : RS} (h : KS G W0 x t H E) : KS (Gsu G sl a k fs cls d) W0 x t H E := by
  cases x with
  | nx r m => exact fun s H' t' ex se ss => h s H' t' ex (SE.cg (G := Gsu G sl a k fs cls d) (G' := G) rfl rfl rfl se se.j.2.2) (SS.cg (G := Gsu G sl a k fs cls d) (G' := G) rfl rfl rfl ss)
  | ret dd m => exact fun v H' t' ex ss rd => h v H' t' ex (SS.cg (G := Gsu G sl a k fs cls d) (G' := G) rfl rfl rfl ss) (RD.cg (G := Gsu G sl a k fs cls d) (G' := G) rfl rfl rfl rd)
  | bk r m => exact fun s H' t' ex se ss => h s H' t' ex (SE.cg (G := Gsu G sl a k fs cls d) (G' := G) rfl rfl rfl se se.j.2.2) (SS.cg (G := Gsu G sl a k fs cls d) (G' := G) rfl rfl rfl ss)
  | ct r m => exact fun s H' t' ex se ss => h s H' t' ex (SE.cg (G := Gsu G sl a k fs cls d) (G' := G) rfl rfl rfl se se.j.2.2) (SS.cg (G := Gsu G sl a k fs cls d) (G' := G) rfl rfl rfl ss)
  | exc kk ff r m => exact fun c da s H' t' ex se ss rx => h c da s H' t' ex (SE.cg (G := Gsu G sl a k fs cls d) (G' := G) rfl rfl rfl se se.j.2.2) (SS.cg (G := Gsu G sl a k fs cls d) (G' := G) rfl rfl rfl ss) (RX.cg (G := Gsu G sl a k fs cls d) (G' := G) rfl rfl rfl rx)
  | stuck => exact h
end
/-- a suite's reading -/
def tsD (G : Gx) (sl : Option Nat) (su : Nat → List (Str × D) → SM) (a : Addr) (cls : Value) (d : Option Addr) : TS := fun E σ H => ∃ k fs r μ t, SE G t H r σ ∧ SS G t H μ ∧ RX G t H k fs cls d ∧ (∀ i, sl = some i → σ[i]? = some (some (.ref a))) ∧ KS G W0 (su k fs r μ) t H E
inductive HdsD (G : Gx) (X : Cx) : List ExceptHandler → List Cl → Prop
  | nil : HdsD G X [] []
  | cons {x : Str} {c : CK} {su : Nat → List (Str × D) → SM} {b₀ : Stmt} {suite : List Stmt} {np pos' : Pos} {hds : List ExceptHandler} {l : List Cl} (hc : CkAt X G.ca x c)
      (hsu : ∀ (a : Addr) (oe : Obj) (cls : Value) (d : Option Addr) (pn : List (Addr × Obj)) (k : Nat) (fs : List (Str × D)), Zc cls d oe → (∃ vs, oe.data = .fields vs) → PSs (X.suite a ((a, oe) :: pn)) (b₀ :: suite) (RdS (Gsu G none a k fs cls d) W0 (su k fs))) (r : HdsD G X hds l) :
      HdsD G X (.ExceptHandler (some (.Name x np)) none (b₀ :: suite) pos' :: hds) (⟨c, none, su⟩ :: l)
  | consN {x n : Str} {i : Nat} {c : CK} {su : Nat → List (Str × D) → SM} {b₀ : Stmt} {suite : List Stmt} {np pos' : Pos} {hds : List ExceptHandler} {l : List Cl} (hc : CkAt X G.ca x c) (hN : X.N.Nodup) (hi : X.N[i]? = some n) (hln : X.env.scope.names.lookup n = some .local) (hfr : G.fr i = true)
      (hsu : ∀ (a : Addr) (oe : Obj) (cls : Value) (d : Option Addr) (pn : List (Addr × Obj)) (k : Nat) (fs : List (Str × D)), Zc cls d oe → (∃ vs, oe.data = .fields vs) → PSs (X.suite a ((a, oe) :: pn)) (b₀ :: suite) (RdS (Gsu G (some i) a k fs cls d) W0 (su k fs))) (r : HdsD G X hds l) :
      HdsD G X (.ExceptHandler (some (.Name x np)) (some n) (b₀ :: suite) pos' :: hds) (⟨c, some i, su⟩ :: l)
section
variable {X : Cx} {G : Gx} {W : WX} {isa : Isa} {body : List Stmt} {h₀ : ExceptHandler} {hds : List ExceptHandler} {pos : Pos}
theorem suite_run {sl : Option Nat} {su : Nat → List (Str × D) → SM} {st : List Stmt} (hsu : ∀ (a : Addr) (oe : Obj) (cls : Value) (d : Option Addr) (pn : List (Addr × Obj)) (k : Nat) (fs : List (Str × D)), Zc cls d oe → (∃ vs, oe.data = .fields vs) → PSs (X.suite a ((a, oe) :: pn)) st (RdS (Gsu G sl a k fs cls d) W0 (su k fs))) :
    ∀ (a : Addr) (oe : Obj) (cls : Value) (d : Option Addr) (pn : List (Addr × Obj)), Zc cls d oe → (∃ vs, oe.data = .fields vs) → PSs (X.suite a ((a, oe) :: pn)) st (tsD G sl su a cls d) := fun a oe cls d pn hz hf =>
  ⟨fun pins s σ H E I ⟨k, fs, r, μ, t, se, ss, rx, hsl, kk⟩ => (hsu a oe cls d pn k fs hz hf).run pins s σ H E I ⟨r, μ, t, SE.cg (G := G) (G' := Gsu G sl a k fs cls d) rfl rfl rfl se ⟨hsl, rx, se.j⟩, SS.cg (G := G) (G' := Gsu G sl a k fs cls d) rfl rfl rfl ss, ks_su kk⟩⟩
theorem names_of {ca : Nat → Option Addr} {x : Str} {c : CK} {cv : Value} (h : CkAt X ca x c) (e : ckU ca c = some cv) : Names X x cv := by
  obtain ⟨hg, hd, hn, h⟩ := h
  cases c with
  | own j =>
    obtain ⟨C, hC, hm⟩ := h
    have : cv = .ref C := by
      have e' : (ca j).map Value.ref = some cv := e
      rw [hC] at e'; cases e'; rfl
    subst this
    exact ⟨hg, hd, .inl hm⟩
  | ty n => cases e; exact ⟨hg, hd, .inr ⟨h.1, h.2, hn⟩⟩
theorem ckU_some {ca : Nat → Option Addr} {x : Str} {c : CK} (h : CkAt X ca x c) : ∃ cv, ckU ca c = some cv := by
  obtain ⟨hg, hd, hn, h⟩ := h
  cases c with
  | own j => obtain ⟨C, hC, hm⟩ := h; exact ⟨.ref C, by show (ca j).map Value.ref = _; rw [hC]; rfl⟩
  | ty n => exact ⟨_, rfl⟩
theorem hds_go (hisa : IsaOk X.K G.ca isa) : ∀ {hds : List ExceptHandler} {cl : List Cl}, HdsD G X hds cl → ∃ l, HdsC X hds l ∧ ∀ (D : Ends) (k : Nat) (fs : List (Str × DI.D)) (r : Env) (m : Sto) (s : St) (t : List Addr) (H : Hp) (cls : Value) (da : Option Addr),
      SE G t H r s → SS G t H m → RX G t H k fs cls da → KS G W (hdl isa cl k fs r m) t H D → wClauses X.K W D l cls da s H
  | _, _, .nil => ⟨[], .nil, fun D k fs r m s t H cls da se ss rx kk => kk cls da s H t (Stp.refl t H) se ss rx⟩
  | _, _, .cons (su := su) (c := c) hc hsu rest => by
    obtain ⟨l, h1, h2⟩ := hds_go hisa rest
    obtain ⟨cv, hcv⟩ := ckU_some hc
    refine ⟨(cv, none, tsD G none su) :: l, .cons (names_of hc hcv) (suite_run hsu) h1, fun D k fs r m s t H cls da se ss rx kk => ?_⟩
    unfold hdl at kk
    cases ei : isa k c with
    | none => simp only [ei] at kk; exact kk.elim
    | some b =>
      simp only [ei] at kk
      obtain ⟨C, cv', z1, _, z2, _, z3⟩ := hisa k c b ei
      obtain ⟨C', y1, rfl⟩ := rx.1
      rw [z1] at y1; cases y1
      rw [hcv] at z2; cases z2
      refine ⟨b, z3, fun hb a na => ?_, fun hb => ?_⟩
      · subst hb
        refine ⟨k, fs, r, m, t, se, ss, rx, (fun i z => nomatch z), ?_⟩
        simp only [RS.gone] at kk
        cases es : su k fs r m with
        | nx r2 m2 => rw [es] at kk; exact kk
        | bk r2 m2 => rw [es] at kk; exact kk
        | ct r2 m2 => rw [es] at kk; exact kk
        | ret d2 m2 => rw [es] at kk; exact kk
        | exc k2 f2 r2 m2 => rw [es] at kk; exact kk.elim
        | stuck => rw [es] at kk; exact kk.elim
      · subst hb
        exact h2 D k fs r m s t H _ da se ss rx kk
  | _, _, .consN (su := su) (c := c) (i := i) hc hN hi hln hfr hsu rest => by
    obtain ⟨l, h1, h2⟩ := hds_go hisa rest
    obtain ⟨cv, hcv⟩ := ckU_some hc
    refine ⟨(cv, some i, tsD G (some i) su) :: l, .consN (names_of hc hcv) hN hi hln (suite_run hsu) h1, fun D k fs r m s t H cls da se ss rx kk => ?_⟩
    unfold hdl at kk
    cases ei : isa k c with
    | none => simp only [ei] at kk; exact kk.elim
    | some b =>
      simp only [ei] at kk
      obtain ⟨C, cv', z1, _, z2, _, z3⟩ := hisa k c b ei
      obtain ⟨C', y1, rfl⟩ := rx.1
      rw [z1] at y1; cases y1
      rw [hcv] at z2; cases z2
      refine ⟨b, z3, fun hb a na => ?_, fun hb => ?_⟩
      · subst hb
        simp only at kk
        split at kk
        rotate_left
        · exact kk.elim
        rename_i hlt
        rw [se.len] at hlt
        refine ⟨k, fs, r.set i none, m, t, se.none hfr, ss, rx, (fun j z => by cases z; rw [List.getElem?_set_self hlt]), ?_⟩
        simp only [RS.gone] at kk
        cases es : su k fs (r.set i none) m with
        | nx r2 m2 => rw [es] at kk; exact fun s' H' t' ex se' ss' => kk (s'.set i none) H' t' ex (se'.none hfr) ss'
        | bk r2 m2 => rw [es] at kk; exact fun s' H' t' ex se' ss' => kk (s'.set i none) H' t' ex (se'.none hfr) ss'
        | ct r2 m2 => rw [es] at kk; exact fun s' H' t' ex se' ss' => kk (s'.set i none) H' t' ex (se'.none hfr) ss'
        | ret d2 m2 => rw [es] at kk; exact kk
        | exc k2 f2 r2 m2 => rw [es] at kk; exact kk.elim
        | stuck => rw [es] at kk; exact kk.elim
      · subst hb
        exact h2 D k fs r m s t H _ da se ss rx kk
theorem di_try (hs : X.stack = X.env :: X.outer) (hf : X.env.frame = some X.env.locals) (tk : Takes X W) (hisa : IsaOk X.K G.ca isa) {b : SM} {cl : List Cl}
    (hb : ∀ (W : WX) (pn : List (Addr × Obj)) (xe : Value → Shared → Prop), Takes (X.tr pn xe) W → PassesOwn (model X.prog X.w) X.A X.env xe → PSs (X.tr pn xe) body (RdS G W b))
    (hh : HdsD G X (h₀ :: hds) cl) : PS X (.Try body (h₀ :: hds) [] [] pos) (RdS G W (sTry isa b cl)) := by
  obtain ⟨l, h1, h2⟩ := hds_go (W := W) hisa hh
  refine PS.imp (ps_try_c hs hf tk hb h1) fun E s H ⟨r, μ, t, se, ss, kk⟩ => ⟨r, μ, t, se, ss, ?_⟩
  unfold sTry at kk
  cases e : b r μ with
  | nx r1 m1 => rw [e] at kk; exact kk
  | ret d m1 => rw [e] at kk; exact kk
  | bk r1 m1 => rw [e] at kk; exact kk
  | ct r1 m1 => rw [e] at kk; exact kk
  | stuck => rw [e] at kk; exact kk
  | exc k fs r1 m1 =>
    rw [e] at kk
    exact fun cls da s' H' t' ex se' ss' rx => h2 E k fs r1 m1 s' t' H' cls da se' ss' rx (KS.later ex kk)
end
end DI

set_option Elab.async false
set_option linter.all false
set_option maxRecDepth 100000
set_option maxHeartbeats 4000000
/-! DIT: a < b < c as a test, f-strings, methods of texts and lists. -/
namespace DI
open PySem PySem.Spec L2
open PyProof.Rows hiding St

/-! ### a op1 b op2 c, as a test -/
def mChainT (o1 o2 : CmpOp) (a b c : M D) : M Bool := fun r m => (a r m).bind fun x m1 => (b r m1).bind fun y m2 => match cmpB o1 x y with
  | some true => (c r m2).bind fun z m3 => (match cmpB o2 y z with
    | some k => .ok k m3
    | none => .stuck)
  | some false => .ok false m2
  | none => .stuck
section
variable {X : Cx} {G : Gx} {W : WX} {pos : Pos} {a b c o e : Expr} {ma mb mc mo : M D} {ms : M (List D)}
theorem di_chainT (hK : G.K = X.K) (hu : X.A.units + 64 < cLine) {o1 o2 : CmpOp} (ha : PE X a (RdE G W ma)) (hb : PE X b (RdE G W mb)) (hc : PE X c (RdE G W mc)) (hm : lastMarks [o1, o2] [b, c] = false) : PT X (.Compare a [o1, o2] [b, c] pos) (RdT G W (mChainT o1 o2 ma mb mc)) := by
  refine PT.imp (pt_chain (op_cmp hK hu o1) (op_cmp hK hu o2) ha hb hc hm) fun s H Q ⟨r, μ, t, se, ss, k⟩ => ?_
  refine rd_step se ss k fun d1 μ1 x H1 t1 _ se1 ss1 r1 k1 => rd_step se1 ss1 k1 fun d2 μ2 y H2 t2 ex2 se2 ss2 r2 k2 => ⟨d1, d2, μ2, t2, ss2, RD.mono ex2.le ex2.ex r1, r2, ?_⟩
  unfold cmpS
  cases e : cmpB o1 d1 d2 with
  | none => rw [e] at k2; exact k2.elim
  | some bb =>
    rw [e] at k2
    intro v H3 t3 ex3 ss3 rd3
    cases rd3
    refine ⟨bb, rfl, ?_⟩
    cases bb with
    | true =>
      refine rd_step (se2.mono ex3.le ex3.ex) ss3 (k2.later ex3) fun d3 μ3 z H4 t4 ex4 se4 ss4 r4 k4 => ⟨d2, d3, μ3, t4, ss4, RD.mono (ex3.trans ex4).le (ex3.trans ex4).ex r2, r4, ?_⟩
      dsimp only
      cases e2 : cmpB o2 d2 d3 with
      | none => rw [e2] at k4; exact k4.elim
      | some b2 =>
        rw [e2] at k4
        intro v H5 t5 ex5 ss5 rd5
        cases rd5
        exact ⟨b2, rfl, k4 b2 H5 t5 ex5 ss5 rfl⟩
    | false => exact ⟨false, rfl, KE.ok_ (k2.later ex3) ss3 rfl⟩

/-! ### f-strings -/
def fmtO : O1 := fun d m => match d with
  | .str y => if y.length ≤ lim then some (.str y, m) else none
  | .int i => if i.natAbs.log2 < 1920 then some (.str (toString i), m) else none
  | _ => none
def mJs : List (M D) → Str → M D
  | [], acc => fun _ m => .ok (.str acc) m
  | a :: as, acc => fun r m => (a r m).bind fun x m1 => match x with
    | .str y => if (acc ++ y).length ≤ lim then mJs as (acc ++ y) r m1 else .stuck
    | _ => .stuck
theorem di_fmt (he : PE X e (RdE G W ma)) : PE X (.FormattedValue e (-1) none pos) (RdE G W (mAp1 fmtO ma)) := by
  refine PE.imp (pe_fmt he) fun s H Q ⟨r, μ, t, se, ss, k⟩ => ?_
  refine rd_step se ss k fun d1 μ1 x H1 t1 _ se1 ss1 r1 k1 => ?_
  have k2 := KE.ofO_ k1
  unfold fmtO at k2
  split at k2
  · split at k2
    · rename_i c; cases r1; exact .inl ⟨_, rfl, lim_le c, KO.now k2 ss1 (.str _)⟩
    · exact k2.elim
  · split at k2
    · rename_i c; cases r1; exact .inr ⟨_, rfl, c, KO.now k2 ss1 (.str _)⟩
    · exact k2.elim
  · exact k2.elim
inductive PJs (X : Cx) (G : Gx) (W : WX) : List Expr → List (M D) → Prop
  | nil : PJs X G W [] []
  | cons {e : Expr} {m : M D} {es : List Expr} {ms : List (M D)} (h : PE X e (RdE G W m)) (r : PJs X G W es ms) : PJs X G W (e :: es) (m :: ms)
theorem PJs.go : ∀ {es : List Expr} {ms : List (M D)}, PJs X G W es ms → ∃ ts, PJ X es ts ∧ ∀ (acc : Str) (s : St) (H : Hp) (r : Env) (μ : Sto) (t : List Addr) (Q : VK), SE G t H r s → SS G t H μ → KE G W s (relD G) (mJs ms acc r μ) t H Q → tJs ts acc s H fun out H1 => Q (.str out) H1
  | _, _, .nil => ⟨[], .nil, fun acc s H r μ t Q se ss k => KE.ok_ k ss (.str acc)⟩
  | _, _, .cons (m := m) (ms := ms) h rest => by
    obtain ⟨ts, h1, h2⟩ := rest.go
    refine ⟨_ :: ts, .cons h h1, fun acc s H r μ t Q se ss k => ?_⟩
    refine rd_step se ss k fun d1 μ1 x H1 t1 _ se1 ss1 r1 k1 => ?_
    cases d1 with
    | str y =>
      simp only at k1
      split at k1
      · rename_i c
        cases r1
        exact ⟨y, rfl, lim_le c, h2 _ s H1 r μ1 t1 Q se1 ss1 k1⟩
      · exact k1.elim
    | _ => exact k1.elim
theorem di_js {v1 v2 : Expr} {rest : List Expr} {ms : List (M D)} (h : PJs X G W (v1 :: v2 :: rest) ms) : PE X (.JoinedStr (v1 :: v2 :: rest) pos) (RdE G W (mJs ms Str.empty)) := by
  obtain ⟨ts, h1, h2⟩ := h.go
  exact PE.imp (pe_joined h1) fun s H Q ⟨r, μ, t, se, ss, k⟩ => h2 _ s H r μ t Q se ss k
theorem di_js1 (he : PE X e (RdE G W ma)) : PE X (.JoinedStr [e] pos) (RdE G W ma) := pe_joined1 he

/-! ### methods -/
abbrev MO := D → List D → Sto → Option (D × Sto)
def mMt (ok : D → Sto → Bool) (f : MO) (o : M D) (a : M (List D)) : M D := fun r m => (o r m).bind fun x m1 => if ok x m1 = true then (a r m1).bind fun ds m2 => ofO (f x ds m2) else .stuck
def okStr : D → Sto → Bool := fun x _ => match x with
  | .str _ => true
  | _ => false
def okLst : D → Sto → Bool := isLst
/-- a method of a built-in type by its action -/
structure MtOk (G : Gx) (X : Cx) (T : String) (name : Str) (id : String) (ok : D → Sto → Bool) (f : MO) : Prop where
  pa : PlainAttrs T
  slot : Slot T name id
  hty : typeOf (.builtin id) = pure (.type "method_descriptor")
  rule : ∃ r, MtR X id r ∧ (∀ t H m x v, SS G t H m → RD G t H x v → ok x m = true → tyV X.K T v H) ∧
    ∀ t0 H0 m0 t H m x v ds vs Q, Stp t0 H0 t H → SS G t0 H0 m0 → RD G t0 H0 x v → ok x m0 = true → SS G t H m → RDs G t H ds vs → KO G (f x ds m) t H Q → r v vs H Q
theorem di_mt {T : String} {name : Str} {id : String} {ok : D → Sto → Bool} {f : MO} (M1 : MtOk G X T name id ok f) {es : List Expr} {apos cpos : Pos} (ho : PE X o (RdE G W mo)) (ha : PA X (e :: es) (RdA G W ms)) (hb : attributeBase o name X.env (eval o X.env) = eval o X.env)
    (hf : ((backTo cpos (starEach (e :: es) X.env)).all (fun x => !x.1) && (backToKw cpos (keywordEach [] X.env)).all (fun x => x.1.isSome) && decide ((e :: es).length + ([] : List Keyword).length + (if ([] : List Keyword).isEmpty then 0 else 1) < 30)) = true)
    (hl : (apos.endLine == cpos.line) = true) (hs : starEach (e :: es) X.env = (false, eval e X.env) :: starEach es X.env) (hp : (backTo cpos (starEach es X.env)).any (·.1) = false) :
    PE X (.Call (.Attribute o name apos) (e :: es) [] cpos) (RdE G W (mMt ok f mo ms)) := by
  obtain ⟨r, h1, h2, h3⟩ := M1.rule
  refine PE.imp (pe_bm M1.pa M1.slot M1.hty h1 ho ha hb hf hl hs hp) fun s H Q ⟨r, μ, t, se, ss, k⟩ => ?_
  refine rd_step se ss k fun x m1 v H1 t1 _ se1 ss1 rx k1 => ?_
  split at k1
  · rename_i c
    refine ⟨h2 _ _ _ _ _ ss1 rx c, ?_⟩
    exact rd_step se1 ss1 k1 fun ds m2 us H2 t2 e2 _ ss2 rds k2 => h3 _ _ _ _ _ _ _ _ _ _ _ e2 ss1 rx c ss2 rds (KE.ofO_ k2)
  · exact k1.elim
theorem di_mt0 {T : String} {name : Str} {id : String} {ok : D → Sto → Bool} {f : MO} (M1 : MtOk G X T name id ok f) {apos cpos : Pos} (ho : PE X o (RdE G W mo)) (hb : attributeBase o name X.env (eval o X.env) = eval o X.env)
    (hl : (apos.endLine == cpos.line) = true) : PE X (.Call (.Attribute o name apos) [] [] cpos) (RdE G W (mMt ok f mo mNil)) := by
  obtain ⟨r, h1, h2, h3⟩ := M1.rule
  refine PE.imp (pe_bm0 M1.pa M1.slot M1.hty h1 ho hb hl) fun s H Q ⟨r, μ, t, se, ss, k⟩ => ?_
  refine rd_step se ss k fun x m1 v H1 t1 _ se1 ss1 rx k1 => ?_
  split at k1
  · rename_i c
    exact ⟨h2 _ _ _ _ _ ss1 rx c, h3 _ _ _ _ _ _ _ _ [] [] _ (Stp.refl _ _) ss1 rx c ss1 .nil (KE.ofO_ k1)⟩
  · exact k1.elim
theorem okStr_ty {t : List Addr} {H : Hp} {m : Sto} {x : D} {v : V} (rd : RD G t H x v) (h : okStr x m = true) : tyV X.K "str" v H := by
  cases rd <;> first | rfl | cases h
theorem rds_strs {t : List Addr} {H : Hp} : ∀ {ys : List Str}, RDs G t H (ys.map D.str) (ys.map V.str)
  | [] => .nil
  | y :: ys => .cons (.str y) rds_strs
theorem mt_frz {id : String} {r : V → List V → Hp → VK → Prop} (h : MtR X id r) : MtR X id (fun x xs H Q => r x xs H (WantF Q)) := fun pins s σ H x xs v us Q I rv rs q => thn (h pins s σ H x xs v us _ I rv rs q) fun _ _ z => ep_frz z

def partitionO : MO := fun x ds m => match x, ds with
  | .str a, [.str b] => if (b.length == 0) = false ∧ a.length ≤ lim then some (.tup [.str (Txt.partition a b).1, .str (Txt.partition a b).2.1, .str (Txt.partition a b).2.2], m) else none
  | _, _ => none
def splitO : MO := fun x ds m => match x, ds with
  | .str a, [.str b] => if (b.length == 0) = false ∧ a.length + 2 ≤ lim then some (.lst ((Txt.split a b).map D.str), m) else none
  | _, _ => none
def startsO : MO := fun x ds m => match x, ds with
  | .str a, [.str b] => some (.bl (Txt.startswith a b), m)
  | _, _ => none
def endsO : MO := fun x ds m => match x, ds with
  | .str a, [.str b] => some (.bl (Txt.endswith a b), m)
  | _, _ => none
def strsOf : List D → Option (List Str)
  | [] => some []
  | .str x :: r => (strsOf r).map (x :: ·)
  | _ => none
theorem strsOf_eq : ∀ {ds : List D} {ys : List Str}, strsOf ds = some ys → ds = ys.map D.str
  | [], ys, h => by cases h; rfl
  | .str x :: r, ys, h => by
    unfold strsOf at h
    obtain ⟨zs, e, rfl⟩ := Option.map_eq_some_iff.mp h
    rw [strsOf_eq e]; rfl
  | .non :: _, _, h => nomatch h
  | .bl _ :: _, _, h => nomatch h
  | .int _ :: _, _, h => nomatch h
  | .tup _ :: _, _, h => nomatch h
  | .lst _ :: _, _, h => nomatch h
  | .dct _ :: _, _, h => nomatch h
  | .ref _ :: _, _, h => nomatch h
  | .fn _ :: _, _, h => nomatch h
  | .cls _ :: _, _, h => nomatch h
  | .ty _ :: _, _, h => nomatch h
  | .exc _ _ :: _, _, h => nomatch h
theorem rds_strV {t : List Addr} {H : Hp} : ∀ {ys : List Str} {vs : List V}, RDs G t H (ys.map D.str) vs → vs = ys.map V.str
  | [], _, .nil => rfl
  | y :: ys, _, .cons a b => by cases a; rw [rds_strV b]; rfl
def joinO : MO := fun x ds m => match x, ds with
  | .str a, [d] => (itemsO d m).bind fun xs => (strsOf xs).bind fun ys => if (ys.map (·.length)).sum + ys.length * a.length ≤ lim then some (.str (Txt.join a ys), m) else none
  | _, _ => none
theorem partition_mt (hK : G.K = X.K) : MtOk G X "str" "partition" "str.partition" okStr partitionO := by
  refine ⟨F.plainAttrs_str, F.slot_str_partition, F.type_str_partition, _, mt_partition, fun t H m x v _ rd h => okStr_ty rd h, fun t0 H0 m0 t H m x v ds vs Q ex ss0 rx ho ss rds k => ?_⟩
  unfold partitionO at k
  split at k
  · split at k
    · rename_i c
      cases rx
      obtain ⟨u, rfl, ru⟩ := RDs.one rds
      cases ru
      exact ⟨_, _, rfl, rfl, c.1, lim_le c.2, fun p hp => KO.tup k ss (rds_strs (ys := [_, _, _])) hp⟩
    · exact k.elim
  · exact k.elim
theorem split_mt (hK : G.K = X.K) : MtOk G X "str" "split" "str.split" okStr splitO := by
  refine ⟨F.plainAttrs_str, F.slot_str_split, F.type_str_split, _, mt_frz mt_split, fun t H m x v _ rd h => okStr_ty rd h, fun t0 H0 m0 t H m x v ds vs Q ex ss0 rx ho ss rds k => ?_⟩
  unfold splitO at k
  split at k
  · split at k
    · rename_i c
      cases rx
      obtain ⟨u, rfl, ru⟩ := RDs.one rds
      cases ru
      exact ⟨_, _, rfl, rfl, c.1, lim_le c.2, fun p hp => KO.lst k ss rds_strs hp⟩
    · exact k.elim
  · exact k.elim
theorem starts_mt (hK : G.K = X.K) : MtOk G X "str" "startswith" "str.startswith" okStr startsO := by
  refine ⟨F.plainAttrs_str, F.slot_str_startswith, F.type_str_startswith, _, mt_startswith, fun t H m x v _ rd h => okStr_ty rd h, fun t0 H0 m0 t H m x v ds vs Q ex ss0 rx ho ss rds k => ?_⟩
  unfold startsO at k
  split at k
  · cases rx
    obtain ⟨u, rfl, ru⟩ := RDs.one rds
    cases ru
    exact ⟨_, _, rfl, rfl, KO.now k ss (.bl _)⟩
  · exact k.elim
theorem ends_mt (hK : G.K = X.K) : MtOk G X "str" "endswith" "str.endswith" okStr endsO := by
  refine ⟨F.plainAttrs_str, F.slot_str_endswith, F.type_str_endswith, _, mt_endswith, fun t H m x v _ rd h => okStr_ty rd h, fun t0 H0 m0 t H m x v ds vs Q ex ss0 rx ho ss rds k => ?_⟩
  unfold endsO at k
  split at k
  · cases rx
    obtain ⟨u, rfl, ru⟩ := RDs.one rds
    cases ru
    exact ⟨_, _, rfl, rfl, KO.now k ss (.bl _)⟩
  · exact k.elim
theorem join_mt (hK : G.K = X.K) : MtOk G X "str" "join" "str.join" okStr joinO := by
  refine ⟨F.plainAttrs_str, F.slot_str_join, F.type_str_join, _, mt_join, fun t H m x v _ rd h => okStr_ty rd h, fun t0 H0 m0 t H m x v ds vs Q ex ss0 rx ho ss rds k => ?_⟩
  unfold joinO at k
  split at k
  · rename_i a d
    cases rx
    obtain ⟨u, rfl, ru⟩ := RDs.one rds
    cases e1 : itemsO d m with
    | none => rw [e1] at k; exact k.elim
    | some xs =>
      rw [e1] at k
      cases e2 : strsOf xs with
      | none => simp only [Option.bind_some, e2] at k; exact k.elim
      | some ys =>
        simp only [Option.bind_some, e2] at k
        split at k
        · rename_i c
          obtain ⟨p, vs, rfl, hv, q'⟩ := items_at ss ru e1
          rw [strsOf_eq e2] at q'
          have := rds_strV q'
          subst this
          have c' : (ys.map (·.length)).sum + ys.length * a.length ≤ 16777216 := Nat.le_trans c (by decide)
          rcases hv with hv | hv
          · exact ⟨_, p, ys, rfl, rfl, .inl (by rw [← hK]; exact hv), c', KO.now k ss (.str _)⟩
          · exact ⟨_, p, ys, rfl, rfl, .inr (by rw [← hK]; exact hv), c', KO.now k ss (.str _)⟩
        · exact k.elim
  · exact k.elim
end
end DI

set_option Elab.async false
set_option linter.all false
set_option maxRecDepth 100000
set_option maxHeartbeats 4000000
/-! DITA: lists frozen at a use, mutable copies, comparisons with mutable lists, dicts. -/
namespace DI
open PySem PySem.Spec L2
open PyProof.Rows hiding St

/-! ### a mutable list frozen where it is handed on -/
def frzO (d : D) (m : Sto) : D × Sto := match d with
  | .ref l => (match m[l]? with
    | some (.lst xs) => (.lst xs, m.set l .dead)
    | _ => (d, m))
  | _ => (d, m)
def mFrz (a : M D) : M D := fun r m => (a r m).bind fun d m1 => .ok (frzO d m1).1 (frzO d m1).2
section
variable {X : Cx} {G : Gx} {W : WX} {pos : Pos} {a b e o : Expr} {ma mb mo : M D}
theorem pe_frz2 {t : TE} (h : PE X e t) : PE X e (fun σ H Q => t σ H (fun v H1 => Q v H1 ∨ WantF Q v H1)) := ⟨fun pins s σ H Q I q => thn (h.run pins s σ H _ I q) fun u s1 z => by
  obtain ⟨v, H1, I1, r, q1⟩ := z
  rcases q1 with q1 | q1
  · exact ⟨v, H1, I1, r, q1⟩
  · exact ep_frz ⟨v, H1, I1, r, q1⟩⟩
theorem SS.kill {t : List Addr} {H : Hp} {m : Sto} {l : Nat} {p : Addr} {xs : List D} {vs : List V} {u : HO} (ss : SS G t H m) (h : m[l]? = some (.lst xs)) (hp : t[l]? = some p) (e : H p = some (.lst vs)) : SS G t (upd H p u) (m.set l .dead) := by
  have hl : l < m.length := (List.getElem?_eq_some_iff.mp h).1
  have at_ : ∀ (j : Nat) (o : O), (m.set l .dead)[j]? = some o → (j = l ∧ o = .dead) ∨ (j ≠ l ∧ m[j]? = some o) := fun j o q => by
    by_cases z : l = j
    · subst z; rw [List.getElem?_set_self hl] at q; cases q; exact .inl ⟨rfl, rfl⟩
    · rw [List.getElem?_set_ne z] at q; exact .inr ⟨Ne.symm z, q⟩
  have ex : Ext H (upd H p u) := Ext.put e trivial
  refine ⟨by rw [List.length_set]; exact ss.len, fun j o q => ?_, fun b q => ?_, fun j j' o o' q h1 h2 n1 n2 h3 h4 => ?_⟩
  · rcases at_ j o q with ⟨rfl, rfl⟩ | ⟨ne, q⟩
    · exact ⟨p, hp, trivial⟩
    · obtain ⟨b, hb, ob⟩ := ss.ob j o q
      refine ⟨b, hb, ?_⟩
      by_cases z : o = .dead
      · subst z; trivial
      · have nb : b ≠ p := fun e => ne (ss.inj j l o _ p q h z (fun w => nomatch w) (by rw [← e]; exact hb) hp)
        exact ob.mono (Le.refl t) ex fun u hu _ => by rw [upd_ne nb]; exact hu
  · by_cases z : b = p
    · subst z; exact ⟨_, upd_same⟩
    · obtain ⟨u, e⟩ := ss.kn b q; exact ⟨u, by rw [upd_ne z]; exact e⟩
  · rcases at_ j o h1 with ⟨rfl, rfl⟩ | ⟨_, g1⟩
    · exact absurd rfl n1
    · rcases at_ j' o' h2 with ⟨rfl, rfl⟩ | ⟨_, g2⟩
      · exact absurd rfl n2
      · exact ss.inj j j' o o' q g1 g2 n1 n2 h3 h4
theorem di_frzE (h : PE X e (RdE G W ma)) : PE X e (RdE G W (mFrz ma)) := by
  refine PE.imp (pe_frz2 h) fun s H Q ⟨r, μ, t, se, ss, k⟩ => ⟨r, μ, t, se, ss, ?_⟩
  unfold mFrz at k
  cases z : ma r μ with
  | stuck => rw [z] at k; exact k.elim
  | exc kk fs m1 => rw [z] at k; exact k
  | ok d m1 =>
    rw [z] at k
    intro v H1 t1 st ss1 rd
    have k : KE G W s (relD G) (.ok (frzO d m1).1 (frzO d m1).2) t H Q := k
    unfold frzO at k
    split at k
    · rename_i l
      split at k
      · rename_i xs hl
        cases rd with
        | ref ha =>
          obtain ⟨vs, hv, q⟩ := ss1.lst hl ha
          exact .inr ⟨_, vs, rfl, hv, fun o => k _ _ t1 (st.trans (Stp.put (List.mem_of_getElem? ha) hv trivial)) (ss1.kill hl ha hv) (.lst ⟨o, upd_same⟩ (q.mono (Le.refl t1) (Ext.put hv trivial)))⟩
      · exact .inl (k v H1 t1 st ss1 rd)
    · exact .inl (k v H1 t1 st ss1 rd)

/-! ### list(x), to be changed -/
def listN : ON := fun ds m => match ds with
  | [d] => (itemsO d m).map fun xs => (.ref m.length, m ++ [.lst xs])
  | _ => none
theorem call_listN_di (hK : G.K = X.K) : CallR X (.type "list") (rON G listN) := by
  intro pins s σ H xs us Q I r h
  obtain ⟨ds, m, t, ss, rd, k⟩ := h
  unfold listN at k
  split at k
  · obtain ⟨v, rfl, q⟩ := rd.one
    rename_i d
    cases e : itemsO d m with
    | none => rw [e] at k; exact k.elim
    | some ys =>
      rw [e] at k
      obtain ⟨p, vs, rfl, hv, q'⟩ := items_at ss q e
      rw [hK] at hv
      refine call_list_of pins s σ H _ us Q I r ⟨_, _, rfl, hv, fun l hl => ?_⟩
      refine k _ _ (t ++ [l]) (Stp.grow hl) (ss.grow q' hl) (.ref ?_)
      rw [← ss.len]; simp
  · exact k.elim

/-! ### comparisons that look into a mutable list -/
def rsv (d : D) (m : Sto) : D := match d with
  | .ref l => (match m[l]? with
    | some (.lst xs) => .lst xs
    | _ => d)
  | _ => d
/-- x in a list, in a tuple, of data of any depth -/
def inDp (tup : Bool) (x : D) (xs : List D) : Option Bool := match inFl x xs with
  | some r => some r
  | none => (toPy x).bind fun d => (toPys xs).bind fun ds => if (SeqAt.shaped d && SeqAt.shaped (if tup then .tuple ds else .list ds)) = true then some (ds.any fun z => PyData.eqv z d) else none
def inR (x y : D) (m : Sto) : Option Bool := match rsv y m with
  | .lst ys => inDp false x ys
  | .tup ys => inDp true x ys
  | _ => none
def cmpSR (op : CmpOp) : O2 := fun a b m => (match op with
  | .Eq => eqD (rsv a m) (rsv b m)
  | .NotEq => (eqD (rsv a m) (rsv b m)).map fun r => !r
  | .In => inR a b m
  | .NotIn => (inR a b m).map fun r => !r
  | _ => none).map fun r => (.bl r, m)
theorem rsv_dp {t : List Addr} {H : Hp} {m : Sto} {d : D} {v : V} {y : PyData} (ss : SS G t H m) (r : RD G t H d v) (e : toPy (rsv d m) = some y) (n : y.hasDict = false) : Dp G.K H v y := by
  unfold rsv at e
  split at e
  · split at e
    · rename_i hl
      cases r with
      | ref ha =>
        obtain ⟨vs, hv, q⟩ := ss.lst hl ha
        simp only [toPy, Option.map_eq_some_iff] at e
        obtain ⟨ys, e1, rfl⟩ := e
        exact .lst (.inl (.inl hv)) (RDs.dp q e1 (by simpa [PyData.hasDict] using n))
    · exact RD.dp r e n
  · exact RD.dp r e n
theorem rsv_lst {t : List Addr} {H : Hp} {m : Sto} {d : D} {v : V} {ys : List D} (ss : SS G t H m) (r : RD G t H d v) (e : rsv d m = .lst ys) : ∃ p vs, v = .ref p ∧ SqL G.K H p vs ∧ RDs G t H ys vs := by
  unfold rsv at e
  split at e
  · split at e
    · rename_i hl
      cases e
      cases r with
      | ref ha =>
        obtain ⟨vs, hv, q⟩ := ss.lst hl ha
        exact ⟨_, vs, rfl, .inl (.inl hv), q⟩
    · cases e
  · subst e
    cases r with
    | lst s q => exact ⟨_, _, rfl, s.l, q⟩
theorem rsv_tup {t : List Addr} {H : Hp} {m : Sto} {d : D} {v : V} {ys : List D} (r : RD G t H d v) (e : rsv d m = .tup ys) : ∃ p vs, v = .ref p ∧ SqT G.K H p vs ∧ RDs G t H ys vs := by
  unfold rsv at e
  split at e
  · split at e
    · cases e
    · cases e
  · subst e
    cases r with
    | tup s q => exact ⟨_, _, rfl, s, q⟩
theorem op_inDT (hu : X.A.units + 65 < cLine) : OpR X (compareOp .In) (fun x y H Q => ∃ d ds, Dp X.K H x d ∧ Dp X.K H y (.tuple ds) ∧ SeqAt.shaped d = true ∧ SeqAt.shaped (.tuple ds) = true ∧ Q (.bl (ds.any fun z => PyData.eqv z d)) H) := by
  intro pins s σ H x y v u Q I rx ry h
  obtain ⟨d, ds, hd, he, sd, se, q⟩ := h
  obtain ⟨as, r1⟩ := Dp.reads I d x v hd rx
  obtain ⟨bs, r2⟩ := Dp.reads I (.tuple ds) y u he ry
  exact SeqAt.in_tuple_reads r2 r1 (SeqAt.canLay_of_shaped se) (SeqAt.canLay_of_shaped sd) (room_in_shaped sd hu) ⟨.bl _, H, I, rfl, q⟩
theorem op_notInDT (hu : X.A.units + 65 < cLine) : OpR X (compareOp .NotIn) (fun x y H Q => ∃ d ds, Dp X.K H x d ∧ Dp X.K H y (.tuple ds) ∧ SeqAt.shaped d = true ∧ SeqAt.shaped (.tuple ds) = true ∧ Q (.bl (!ds.any fun z => PyData.eqv z d)) H) := by
  intro pins s σ H x y v u Q I rx ry h
  obtain ⟨d, ds, hd, he, sd, se, q⟩ := h
  obtain ⟨as, r1⟩ := Dp.reads I d x v hd rx
  obtain ⟨bs, r2⟩ := Dp.reads I (.tuple ds) y u he ry
  exact SeqAt.notIn_tuple_reads r2 r1 (SeqAt.canLay_of_shaped se) (SeqAt.canLay_of_shaped sd) (room_in_shaped sd hu) ⟨.bl _, H, I, rfl, q⟩
/-- what a membership asks of the heap -/
theorem inR_ok (hK : G.K = X.K) {t : List Addr} {H : Hp} {m : Sto} {d1 d2 : D} {x y : V} {b : Bool} (ss : SS G t H m) (r1 : RD G t H d1 x) (r2 : RD G t H d2 y) (e : inR d1 d2 m = some b) :
    (∃ p vs, y = .ref p ∧ (SqL X.K H p vs ∨ SqT X.K H p vs) ∧ flatV x = true ∧ vs.all flatV = true ∧ b = inV x vs) ∨
    (∃ d ds, Dp X.K H x d ∧ SeqAt.shaped d = true ∧ ((Dp X.K H y (.list ds) ∧ SeqAt.shaped (.list ds) = true) ∨ (Dp X.K H y (.tuple ds) ∧ SeqAt.shaped (.tuple ds) = true)) ∧ b = ds.any fun z => PyData.eqv z d) := by
  unfold inR at e
  split at e
  · rename_i ys hy
    obtain ⟨p, vs, rfl, sq, q1⟩ := rsv_lst ss r2 hy
    unfold inDp at e
    split at e
    · rename_i r hr
      cases e
      obtain ⟨f1, f2, rfl⟩ := inFl_some hr
      exact .inl ⟨p, vs, rfl, .inl (by rw [← hK]; exact sq), base_flat r1 f1, base_all q1 f2, (base_any r1 q1).symm⟩
    · obtain ⟨d, e1, e⟩ := Option.bind_eq_some_iff.mp e
      obtain ⟨ds, e2, e⟩ := Option.bind_eq_some_iff.mp e
      by_cases c : (SeqAt.shaped d && SeqAt.shaped (.list ds)) = true
      · have e : (if (SeqAt.shaped d && SeqAt.shaped (.list ds)) = true then some (ds.any fun z => PyData.eqv z d) else none) = some b := e
        rw [if_pos c] at e
        rw [Bool.and_eq_true] at c
        cases e
        have c2 : SeqAt.shaped (.list ds) = true := c.2
        have p1 := RD.dp r1 e1 (shaped_nodict c.1)
        have nd : (PyData.list ds).hasDict = false := shaped_nodict c2
        have p2 : Dp G.K H (.ref p) (.list ds) := .lst sq (RDs.dp q1 e2 (by simpa [PyData.hasDict] using nd))
        rw [hK] at p1 p2
        exact .inr ⟨d, ds, p1, c.1, .inl ⟨p2, c2⟩, rfl⟩
      · have e : (if (SeqAt.shaped d && SeqAt.shaped (.list ds)) = true then some (ds.any fun z => PyData.eqv z d) else none) = some b := e
        rw [if_neg c] at e
        cases e
  · rename_i ys hy
    obtain ⟨p, vs, rfl, sq, q1⟩ := rsv_tup r2 hy
    unfold inDp at e
    split at e
    · rename_i r hr
      cases e
      obtain ⟨f1, f2, rfl⟩ := inFl_some hr
      exact .inl ⟨p, vs, rfl, .inr (by rw [← hK]; exact sq), base_flat r1 f1, base_all q1 f2, (base_any r1 q1).symm⟩
    · obtain ⟨d, e1, e⟩ := Option.bind_eq_some_iff.mp e
      obtain ⟨ds, e2, e⟩ := Option.bind_eq_some_iff.mp e
      by_cases c : (SeqAt.shaped d && SeqAt.shaped (.tuple ds)) = true
      · have e : (if (SeqAt.shaped d && SeqAt.shaped (.tuple ds)) = true then some (ds.any fun z => PyData.eqv z d) else none) = some b := e
        rw [if_pos c] at e
        rw [Bool.and_eq_true] at c
        cases e
        have c2 : SeqAt.shaped (.tuple ds) = true := c.2
        have p1 := RD.dp r1 e1 (shaped_nodict c.1)
        have nd : (PyData.tuple ds).hasDict = false := shaped_nodict c2
        have p2 : Dp G.K H (.ref p) (.tuple ds) := .tup sq (RDs.dp q1 e2 (by simpa [PyData.hasDict] using nd))
        rw [hK] at p1 p2
        exact .inr ⟨d, ds, p1, c.1, .inr ⟨p2, c2⟩, rfl⟩
      · have e : (if (SeqAt.shaped d && SeqAt.shaped (.tuple ds)) = true then some (ds.any fun z => PyData.eqv z d) else none) = some b := e
        rw [if_neg c] at e
        cases e
  · cases e
theorem op_cmpR (hK : G.K = X.K) (hu : X.A.units + 100 < cLine) (op : CmpOp) : OpR X (compareOp op) (rO2 G (cmpSR op)) := by
  intro pins s σ H x y v u Q I rx ry h
  obtain ⟨d1, d2, m, t, ss, r1, r2, k⟩ := h
  have k' := k
  unfold cmpSR at k'
  obtain ⟨b, e, k⟩ : ∃ b, (match op with
    | .Eq => eqD (rsv d1 m) (rsv d2 m)
    | .NotEq => (eqD (rsv d1 m) (rsv d2 m)).map fun r => !r
    | .In => inR d1 d2 m
    | .NotIn => (inR d1 d2 m).map fun r => !r
    | _ => none) = some b ∧ KO G (some (D.bl b, m)) t H Q := by
    revert k'
    generalize (match op with
      | .Eq => eqD (rsv d1 m) (rsv d2 m)
      | .NotEq => (eqD (rsv d1 m) (rsv d2 m)).map fun r => !r
      | .In => inR d1 d2 m
      | .NotIn => (inR d1 d2 m).map fun r => !r
      | _ => none) = z
    intro k'
    cases z with
    | none => exact k'.elim
    | some b => exact ⟨b, rfl, k'⟩
  clear k'
  have fin : Q (.bl b) H := k.now ss (.bl _)
  split at e
  · obtain ⟨x1, y1, e1, e2, s1, s2, rfl⟩ := eqD_some e
    have p1 := rsv_dp ss r1 e1 (shaped_nodict s1)
    have p2 := rsv_dp ss r2 e2 (shaped_nodict s2)
    rw [hK] at p1 p2
    exact op_eqD (by omega) pins s σ H _ _ v u Q I rx ry ⟨_, _, p1, p2, s1, s2, fin⟩
  · obtain ⟨b', e', rfl⟩ := Option.map_eq_some_iff.mp e
    obtain ⟨x1, y1, e1, e2, s1, s2, rfl⟩ := eqD_some e'
    have p1 := rsv_dp ss r1 e1 (shaped_nodict s1)
    have p2 := rsv_dp ss r2 e2 (shaped_nodict s2)
    rw [hK] at p1 p2
    exact op_neD (by omega) pins s σ H _ _ v u Q I rx ry ⟨_, _, p1, p2, s1, s2, fin⟩
  · rcases inR_ok hK ss r1 r2 e with ⟨p, vs, rfl, sq, f1, f2, rfl⟩ | ⟨d, ds, p1, s1, ⟨p2, s2⟩ | ⟨p2, s2⟩, rfl⟩
    · exact op_in_seq pins s σ H _ _ v u Q I rx ry ⟨_, _, rfl, sq, f1, f2, fin⟩
    · exact op_inD (by omega) pins s σ H _ _ v u Q I rx ry ⟨d, ds, p1, p2, s1, s2, fin⟩
    · exact op_inDT (by omega) pins s σ H _ _ v u Q I rx ry ⟨d, ds, p1, p2, s1, s2, fin⟩
  · obtain ⟨b', e', rfl⟩ := Option.map_eq_some_iff.mp e
    rcases inR_ok hK ss r1 r2 e' with ⟨p, vs, rfl, sq, f1, f2, rfl⟩ | ⟨d, ds, p1, s1, ⟨p2, s2⟩ | ⟨p2, s2⟩, rfl⟩
    · exact op_notIn_seq pins s σ H _ _ v u Q I rx ry ⟨_, _, rfl, sq, f1, f2, fin⟩
    · exact op_notInD (by omega) pins s σ H _ _ v u Q I rx ry ⟨d, ds, p1, p2, s1, s2, fin⟩
    · exact op_notInDT (by omega) pins s σ H _ _ v u Q I rx ry ⟨d, ds, p1, p2, s1, s2, fin⟩
  · cases e
theorem di_cmpR (hK : G.K = X.K) (hu : X.A.units + 100 < cLine) {op : CmpOp} (ha : PE X a (RdE G W ma)) (hb : PE X b (RdE G W mb)) (hm : behindInMarks op b = false) : PE X (.Compare a [op] [b] pos) (RdE G W (mAp2 (cmpSR op) ma mb)) := di_ap2 (pe_cmpR (op_cmpR hK hu op) ha hb hm)
def mCmpTR (op : CmpOp) (a b : M D) : M Bool := fun r m => (a r m).bind fun x m1 => (b r m1).bind fun y m2 => match cmpSR op x y m2 with
  | some (.bl k, m3) => .ok k m3
  | _ => .stuck
theorem cmpSR_bl {op : CmpOp} {x y : D} {m m1 : Sto} {d : D} (h : cmpSR op x y m = some (d, m1)) : ∃ b, d = .bl b ∧ m1 = m := by
  unfold cmpSR at h
  obtain ⟨b, e, q⟩ := Option.map_eq_some_iff.mp h
  cases q
  exact ⟨b, rfl, rfl⟩
theorem di_cmpTR (hK : G.K = X.K) (hu : X.A.units + 100 < cLine) {op : CmpOp} (ha : PE X a (RdE G W ma)) (hb : PE X b (RdE G W mb)) (hm : behindInMarks op b = false) : PT X (.Compare a [op] [b] pos) (RdT G W (mCmpTR op ma mb)) := by
  refine PT.imp (pt_cmpR (op_cmpR hK hu op) ha hb hm) fun s H Q ⟨r, μ, t, se, ss, k⟩ => ?_
  refine rd_step se ss k fun d1 μ1 x H1 t1 _ se1 ss1 r1 k1 => rd_step se1 ss1 k1 fun d2 μ2 y H2 t2 ex2 _ ss2 r2 k2 => ⟨d1, d2, μ2, t2, ss2, RD.mono ex2.le ex2.ex r1, r2, ?_⟩
  cases e : cmpSR op d1 d2 μ2 with
  | none => rw [e] at k2; exact k2.elim
  | some z =>
    obtain ⟨d, m3⟩ := z
    obtain ⟨b, rfl, rfl⟩ := cmpSR_bl e
    rw [e] at k2
    intro v H' t' ex ss' rd
    cases rd
    exact ⟨b, rfl, k2 b H' t' ex ss' rfl⟩

/-! ### dicts whose keys are texts -/
def dctL : List (Str × M D) → M (List (D × D))
  | [] => fun _ m => .ok [] m
  | (k, a) :: l => fun r m => (a r m).bind fun d m1 => (dctL l r m1).bind fun ds m2 => .ok ((.str k, d) :: ds) m2
def mDct (l : List (Str × M D)) : M D := fun r m => if (l.map (·.1)).Nodup ∧ l.length ≤ 15 then (dctL l r m).bind fun ds m1 => .ok (.dct ds) m1 else .stuck
/-- what stands by a key -/
def dGet : List (D × D) → D → Option D
  | [], _ => none
  | (k, d) :: l, y => (match k, y with
    | .str a, .str b => if a = b then some d else dGet l y
    | .int a, .int b => if a = b then some d else dGet l y
    | _, _ => dGet l y)
inductive PDs (X : Cx) (G : Gx) (W : WX) : List (Option Expr) → List Expr → List (Str × M D) → Prop
  | nil : PDs X G W [] [] []
  | cons {x : Str} {j : Nat} {p : Pos} {e : Expr} {m : M D} {ks : List (Option Expr)} {es : List Expr} {l : List (Str × M D)} (h : PE X e (RdE G W m)) (r : PDs X G W ks es l) : PDs X G W (some (.Constant (.str x) j p) :: ks) (e :: es) ((x, m) :: l)
theorem PDs.len {ks : List (Option Expr)} {es : List Expr} {l : List (Str × M D)} (h : PDs X G W ks es l) : ks.length = es.length ∧ ks.length = l.length ∧ ks.all (·.isSome) = true := by
  induction h with
  | nil => exact ⟨rfl, rfl, rfl⟩
  | cons h r ih => exact ⟨by simp [ih.1], by simp [← ih.2.1, ih.1], by simp [ih.2.2]⟩
def kvV (kvs : List (Key × V)) : List (V × V) := kvs.map fun kv => (kV kv.1, kv.2)
theorem PDs.go {ks : List (Option Expr)} {es : List Expr} {l : List (Str × M D)} (h : PDs X G W ks es l) : ∃ trs, PPs X pos ks es trs ∧ ∀ (s : St) (H : Hp) (r : DI.Env) (μ : Sto) (t : List Addr) (Q : List (V × V) → Hp → Prop), SE G t H r s → SS G t H μ →
    KE G W s (fun t H ds kvs => RDk G t H ds kvs) (dctL l r μ) t H (fun (kvs : List (Key × V)) H1 => kvs.map (·.1) = l.map (fun p => .inr p.1) → Q (kvV kvs) H1) → tPairs trs s H Q := by
  induction h with
  | nil => exact ⟨[], pps_nil, fun s H r μ t Q se ss k => KE.ok_ k ss .nil rfl⟩
  | @cons x j p e m ks es l h _ ih =>
    obtain ⟨trs, h1, h2⟩ := ih
    refine ⟨_, pps_cons pe_str h h1, fun s H r μ t Q se ss k => ?_⟩
    refine rd_step se ss k fun d μ1 v H1 t1 _ se1 ss1 r1 k1 => ?_
    refine h2 s H1 r μ1 t1 _ se1 ss1 ?_
    revert k1
    cases z : dctL l r μ1 with
    | stuck => exact fun k1 => k1.elim
    | exc kk fs m2 => exact fun k1 => k1
    | ok ds m2 =>
      intro k1 kvs H2 t2 st ss2 rk hk
      exact k1 ((.inr x, v) :: kvs) H2 t2 st ss2 (.cons (k := .inr x) (RD.mono st.le st.ex r1) rk) (by simp [hk])
theorem mergeK_nodup : ∀ (more acc : List (Key × V)), ((acc ++ more).map (·.1)).Nodup → mergeK acc more = acc ++ more
  | [], acc, _ => by simp [mergeK]
  | (k, v) :: more, acc, h => by
    have hk : valV acc k = none := by
      unfold valV
      rw [Option.map_eq_none_iff, List.find?_eq_none]
      intro p hp e
      have e : p.1 = k := by simpa using e
      rw [List.map_append, List.nodup_append] at h
      exact h.2.2 p.1 (List.mem_map.mpr ⟨p, hp, rfl⟩) k (by simp) e
    show mergeK (putK acc k v) more = _
    rw [putK_new v hk, mergeK_nodup more _ (by simpa using h)]
    simp
theorem nd_inr {l : List Str} (h : l.Nodup) : (l.map (fun x => (Sum.inr x : Key))).Nodup := by
  induction l with
  | nil => simp
  | cons x l ih =>
    rw [List.nodup_cons] at h
    rw [List.map_cons, List.nodup_cons]
    refine ⟨fun z => ?_, ih h.2⟩
    obtain ⟨y, hy, e⟩ := List.mem_map.mp z
    cases e
    exact h.1 hy
theorem di_dct {ks : List (Option Expr)} {es : List Expr} {l : List (Str × M D)} (h : PDs X G W ks es l) (h0 : ks ≠ []) (hl : ks.length ≤ 15) : PE X (.Dict ks es pos) (RdE G W (mDct l)) := by
  obtain ⟨trs, h1, h2⟩ := h.go (pos := pos)
  obtain ⟨l1, l2, l3⟩ := h.len
  refine PE.imp (pe_frzd (pe_disp h1 l3 l1 h0 hl)) fun s H Q ⟨r, μ, t, se, ss, k⟩ p hp => ?_
  unfold mDct at k
  split at k
  · rename_i c
    have ex : Stp t H t (upd H p (.dK [])) := Stp.fresh hp
    have hn : p ∉ t := fun z => by obtain ⟨u, e⟩ := ss.kn _ z; rw [hp] at e; cases e
    refine h2 s _ r μ t _ (se.mono ex.le ex.ex) (ss.new hp) ?_
    revert k
    cases z : dctL l r μ with
    | stuck => exact fun k => k.elim
    | exc kk fs m2 => exact fun k cls da H' t' st ss2 rx => k cls da H' t' (ex.trans st) ss2 rx
    | ok ds m2 =>
      intro k kvs H2 t2 st ss2 rk hk
      have e2 := st.keep p _ upd_same hn
      have hn2 : p ∉ t2 := fun z => (st.new _ z).elim hn fun q => by rw [upd_same] at q; cases q
      refine ⟨e2, kvs, rfl, ?_, p, kvs, rfl, ?_, fun o => ?_⟩
      · have := congrArg List.length hk
        simp at this
        omega
      · rw [mergeK_nodup kvs [] (by rw [List.nil_append, hk]; have := nd_inr c.1; rw [List.map_map] at this; exact this), List.nil_append]
        exact upd_same
      · rw [upd_upd]
        refine k _ _ t2 ((ex.trans st).over hp e2 trivial) (ss2.out hn2 e2 trivial) (.dct ⟨o, upd_same⟩ (RDk.mono (Le.refl _) (Ext.put e2 trivial) rk))
  · exact k.elim
theorem dGet_str {t : List Addr} {H : Hp} {b : Str} {d : D} : ∀ {ds : List (D × D)} {kvs : List (Key × V)}, RDk G t H ds kvs → dGet ds (.str b) = some d → ∃ v, valV kvs (.inr b) = some v ∧ RD G t H d v
  | _, _, .nil, e => by cases e
  | _, _, .cons (k := k) (v := v) a r, e => by
    cases k with
    | inl i =>
      obtain ⟨w, h1, h2⟩ := dGet_str (d := d) r e
      exact ⟨w, by rw [valV_neg (show ¬ _ = _ from fun z => by cases z)]; exact h1, h2⟩
    | inr x =>
      simp only [keyD, dGet] at e
      split at e
      · rename_i q
        cases e
        exact ⟨v, valV_pos (show _ = _ by rw [q]), a⟩
      · rename_i q
        obtain ⟨w, h1, h2⟩ := dGet_str (d := d) r e
        exact ⟨w, by rw [valV_neg (show ¬ _ = _ from fun z => q (Sum.inr.inj z))]; exact h1, h2⟩
theorem dGet_int {t : List Addr} {H : Hp} {b : Int} {d : D} : ∀ {ds : List (D × D)} {kvs : List (Key × V)}, RDk G t H ds kvs → dGet ds (.int b) = some d → ∃ v, valV kvs (.inl b) = some v ∧ RD G t H d v
  | _, _, .nil, e => by cases e
  | _, _, .cons (k := k) (v := v) a r, e => by
    cases k with
    | inr i =>
      obtain ⟨w, h1, h2⟩ := dGet_int (d := d) r e
      exact ⟨w, by rw [valV_neg (show ¬ _ = _ from fun z => by cases z)]; exact h1, h2⟩
    | inl x =>
      simp only [keyD, dGet] at e
      split at e
      · rename_i q
        cases e
        exact ⟨v, valV_pos (show _ = _ by rw [q]), a⟩
      · rename_i q
        obtain ⟨w, h1, h2⟩ := dGet_int (d := d) r e
        exact ⟨w, by rw [valV_neg (show ¬ _ = _ from fun z => q (Sum.inl.inj z))]; exact h1, h2⟩
def keyOk : D → Bool
  | .str _ => true
  | .int _ => true
  | _ => false
def dLook (x y : D) (m : Sto) : R D := match x with
  | .dct ds => if keyOk y = true then (match dGet ds y with
    | some d => .ok d m
    | none => .stuck) else .stuck
  | _ => .stuck
def mDLk (a b : M D) : M D := fun r m => (a r m).bind fun x m1 => (b r m1).bind fun y m2 => dLook x y m2
theorem di_dget (hu : X.A.units + 64 < cLine) (ha : PE X a (RdE G W ma)) (hb : PE X b (RdE G W mb)) (hs : NoSl b) : PE X (.Subscript a b pos) (RdE G W (mDLk ma mb)) := by
  refine PE.imp (pe_dget (by omega) ha hb hs) fun s H Q ⟨r, μ, t, se, ss, k⟩ => ?_
  refine rd_step se ss k fun d1 μ1 x H1 t1 _ se1 ss1 r1 k1 => rd_step se1 ss1 k1 fun d2 μ2 y H2 t2 ex2 _ ss2 r2 k2 => ?_
  have r1 := RD.mono ex2.le ex2.ex r1
  unfold dLook at k2
  split at k2
  · rename_i ds
    split at k2
    · rename_i hy
      split at k2
      · rename_i d hd
        cases r1 with
        | dct e q =>
          obtain ⟨o, e⟩ := e
          cases d2 with
          | str b =>
            cases r2
            obtain ⟨w, h1, h2⟩ := dGet_str q hd
            exact ⟨_, w, rfl, .inl ⟨_, .inr b, .inr ⟨o, e⟩, rfl, h1.symm⟩, KE.ok_ k2 ss2 h2⟩
          | int b =>
            cases r2
            obtain ⟨w, h1, h2⟩ := dGet_int q hd
            exact ⟨_, w, rfl, .inl ⟨_, .inl b, .inr ⟨o, e⟩, rfl, h1.symm⟩, KE.ok_ k2 ss2 h2⟩
          | _ => cases hy
      · exact k2.elim
    · exact k2.elim
  · exact k2.elim

/-! ### comprehensions whose list is changed later -/
def thaw : D → Sto → R D := fun d m => match d with
  | .lst xs => .ok (.ref m.length) (m ++ [.lst xs])
  | _ => .stuck
noncomputable def mLcN (mi : M ItD) (own : List Nat) (p : P) (mc : M Bool) (me : M D) : M D := fun r m => (mi r m).bind fun it m1 => (lcL (Live it) p mc me (wipeE r own) it.items [] m1).bind thaw
theorem SS.adopt {t : List Addr} {H : Hp} {m : Sto} {p : Addr} {ds : List D} {vs : List V} (ss : SS G t H m) (r : RDs G t H ds vs) (np : p ∉ t) (hp : H p = some (.lst vs)) : SS G (t ++ [p]) H (m ++ [.lst ds]) := by
  have le : Le t (t ++ [p]) := Le.app t [p]
  have at_ : ∀ (l : Nat) (o : O), (m ++ [O.lst ds])[l]? = some o → (l < m.length ∧ m[l]? = some o) ∨ (l = m.length ∧ o = .lst ds) := fun l o h => by
    by_cases hl : l < m.length
    · rw [List.getElem?_append_left hl] at h
      exact .inl ⟨hl, h⟩
    · rw [List.getElem?_append_right (by omega)] at h
      have : l - m.length = 0 := by
        have := (List.getElem?_eq_some_iff.mp h).1
        simp at this; omega
      rw [this] at h
      simp at h
      exact .inr ⟨by omega, h.symm⟩
  have ta : ∀ (l : Nat), l < m.length → (t ++ [p])[l]? = t[l]? := fun l hl => List.getElem?_append_left (by rw [ss.len]; exact hl)
  have tl : (t ++ [p])[m.length]? = some p := by rw [List.getElem?_append_right (by rw [ss.len]; exact Nat.le_refl _), ss.len]; simp
  refine ⟨by simp [ss.len], fun l o h => ?_, fun a q => ?_, fun l l' o o' q h1 h2 n1 n2 h3 h4 => ?_⟩
  · rcases at_ l o h with ⟨hl, h⟩ | ⟨rfl, rfl⟩
    · obtain ⟨a, e, ob⟩ := ss.ob l o h
      exact ⟨a, by rw [ta l hl]; exact e, ob.mono le (Ext.refl H) fun u hu _ => hu⟩
    · exact ⟨p, tl, vs, hp, r.mono le (Ext.refl H)⟩
  · rcases List.mem_append.mp q with z | z
    · exact ss.kn a z
    · rw [List.mem_singleton] at z
      subst z
      exact ⟨_, hp⟩
  · rcases at_ l o h1 with ⟨hl, h1⟩ | ⟨rfl, rfl⟩
    · rcases at_ l' o' h2 with ⟨hl', h2⟩ | ⟨rfl, rfl⟩
      · rw [ta l hl] at h3; rw [ta l' hl'] at h4
        exact ss.inj l l' o o' q h1 h2 n1 n2 h3 h4
      · rw [ta l hl] at h3; rw [tl] at h4; cases h4
        exact absurd (List.mem_of_getElem? h3) np
    · rcases at_ l' o' h2 with ⟨hl', h2⟩ | ⟨rfl, rfl⟩
      · rw [ta l' hl'] at h4; rw [tl] at h3; cases h3
        exact absurd (List.mem_of_getElem? h4) np
      · rfl
theorem lc_readsN {s : St} {H1 : Hp} {Q : VK} {mi : M ItD} {own : List Nat} {p : P} {mc : M Bool} {me : M D} (hp : ∀ i ∈ slotsP p, i ∈ own) (hfv : ∀ i ∈ own, G.fr i = true) {H : Hp} (h : RdE G W (mLcN mi own p mc me) s H Q) : tLc (RdI G W mi) (RdG G p) (RdT G W0 mc) (RdE G W0 me) own s H Q := by
  obtain ⟨r, μ, t, se, ss, k⟩ := h
  refine rd_step se ss k fun it m1 J H1 t1 _ se1 ss1 io k1 => ?_
  intro Dl hD
  have hDt : Dl ∉ t1 := fun z => by obtain ⟨u, e⟩ := ss1.kn _ z; rw [hD] at e; cases e
  refine ⟨fun i n H2 => n = it.items.length - i ∧ i ≤ it.items.length ∧ ∃ acc vs m2 t2, Stp t1 H1 t2 H2 ∧ Dl ∉ t2 ∧ SS G t2 H2 m2 ∧ H2 Dl = some (.lst vs) ∧ RDs G t2 H2 acc vs ∧ KE G W s (relD G) ((lcL (Live it) p mc me (wipeE r own) (it.items.drop i) acc m2).bind thaw) t1 H1 Q,
    ⟨it.items.length, rfl, Nat.zero_le _, [], [], m1, t1, Stp.fresh hD, hDt, ss1.new hD, upd_same, .nil, k1⟩, ?_⟩
  rintro i n H2 ⟨rfl, hi2, acc, vs, m2, t2, ex, nt2, ss2, hv, ra, k2⟩
  by_cases lv : Live it m2
  · obtain ⟨st, go⟩ := io i H2 t2 m2 ex ss2 lv
    by_cases hlt : i < it.items.length
    · obtain ⟨g1, g2⟩ := go it.items[i] (List.getElem?_eq_getElem hlt)
      rw [List.drop_eq_getElem_cons hlt, lcL_cons lv] at k2
      refine .inr ⟨g1, fun H' => i + 1 ≤ it.items.length ∧ ∃ acc vs m2 t2, Stp t1 H1 t2 H' ∧ Dl ∉ t2 ∧ SS G t2 H' m2 ∧ H' Dl = some (.lst vs) ∧ RDs G t2 H' acc vs ∧ KE G W s (relD G) ((lcL (Live it) p mc me (wipeE r own) (it.items.drop (i + 1)) acc m2).bind thaw) t1 H1 Q, fun H' q => ⟨it.items.length - (i + 1), by omega, rfl, q.1, q.2⟩, fun x H3 y => ?_⟩
      obtain ⟨ex3, ss3, rd3⟩ := g2 x H3 y
      have hv3 := ex3.keep _ _ hv nt2
      cases e : bindP p it.items[i] (wipeE r own) with
      | none => rw [e] at k2; exact k2.elim
      | some r3 =>
        rw [e] at k2
        refine ⟨_, wipeE r own, t2, r3, ((se1.wipe own hfv).mono (ex.trans ex3).le (ex.trans ex3).ex), rd3, e, fun s' H5 u5 se' bt => ⟨wipe_but bt hp, r3, m2, t2, se', ss3.up u5, ?_⟩⟩
        have hv3 := u5 _ _ hv3
        have ex3 := ex3.trans u5.stp
        simp only at k2
        cases ec : mc r3 m2 with
        | stuck => rw [ec] at k2; exact k2.elim
        | exc kk fs m4 => rw [ec] at k2; exact k2.elim
        | ok b m4 =>
          rw [ec] at k2
          intro b' H4 t4 ex4 ss4 rb
          cases rb
          have ex24 := ex3.trans ex4
          have nt4 : Dl ∉ t4 := fun z => (ex4.new _ z).elim nt2 fun q => by rw [hv3] at q; cases q
          have hv4 := ex4.keep _ _ hv3 nt2
          cases b with
          | false =>
            exact ⟨hlt, acc, vs, m4, t4, ex.trans ex24, nt4, ss4, hv4, ra.mono ex24.le ex24.ex, k2⟩
          | true =>
            refine ⟨r3, m4, t4, se'.mono ex4.le ex4.ex, ss4, ?_⟩
            simp only at k2
            cases ey : me r3 m4 with
            | stuck => rw [ey] at k2; exact k2.elim
            | exc kk fs m5 => rw [ey] at k2; exact k2.elim
            | ok d m5 =>
              rw [ey] at k2
              simp only at k2
              intro v H5 t5 ex5 ss5 rv
              have hv5 := ex5.keep _ _ hv4 nt4
              have nt5 : Dl ∉ t5 := fun z => (ex5.new _ z).elim nt4 fun q => by rw [hv4] at q; cases q
              have ex25 := ex24.trans ex5
              split at k2
              · rename_i hl
                refine ⟨vs, hv5, ?_, hlt, acc ++ [d], vs ++ [v], m5, t5, (ex.trans ex25).over hD hv5 trivial, nt5, ss5.out nt5 hv5 trivial, upd_same, ?_, k2⟩
                · rw [← ra.length]; exact lim_lt hl
                · exact ((ra.mono ex25.le ex25.ex).append (.cons rv .nil)).mono (Le.refl _) (Ext.put hv5 trivial)
              · exact k2.elim
    · have e : i = it.items.length := by omega
      subst e
      refine .inl ⟨st (Nat.le_refl _), ?_⟩
      rw [List.drop_length, lcL, if_pos lv] at k2
      refine k2 (.ref Dl) _ (t2 ++ [Dl]) ⟨ex.le.trans (Le.app _ _), ex.ex, ex.keep, fun a q => ?_⟩ (ss2.adopt ra nt2 hv) (.ref ?_)
      · rcases List.mem_append.mp q with z | z
        · exact ex.new a z
        · rw [List.mem_singleton] at z; subst z; exact .inr hD
      · rw [← ss2.len]; simp
  · rw [lcL_live lv] at k2
    exact k2.elim
theorem di_lcN {elt tg iter : Expr} {ifs : List Expr} {scope : Scope} {own : List (Str × Nat)} {mi : M ItD} {p : P} {mc : M Bool} {me : M D} (hc : X.calm = true) (hN : X.N.Nodup) (hi : PI X tg iter (RdI G W mi)) (ok : BlkOk X.N X.env.scope scope own) (hp : ∀ i ∈ slotsP p, i ∈ own.map (·.2)) (hv : ∀ i ∈ own.map (·.2), G.fr i = true)
    (hg : ∀ (s : Shared) (H : Hp) (C : Addr) (cl : List (Str × Addr)) (fp : List Addr), PG (X.blk s H scope (compEnvC scope cl C X.env) fp) tg (RdG G p)) (ht : ∀ (s : Shared) (H : Hp) (C : Addr) (cl : List (Str × Addr)) (fp : List Addr), PTs (X.blk s H scope (compEnvC scope cl C X.env) fp) ifs (RdT G W0 mc))
    (he : ∀ (s : Shared) (H : Hp) (C : Addr) (cl : List (Str × Addr)) (fp : List Addr), PE (X.blk s H scope (compEnvC scope cl C X.env) fp) elt (RdE G W0 me)) (hs : ∀ x, foldedSetIterable iter X.env x = pure x) :
    PE X (.ListComp elt [⟨tg, iter, ifs, 0⟩] scope pos) (RdE G W (mLcN mi (own.map (·.2)) p mc me)) :=
  PE.imp (pe_lc hc hN hi ok hg ht he hs) fun s H Q h => lc_readsN (H1 := H) hp hv h

/-! ### a + b of lists, the sum to be changed -/
def catN : O2 := fun a b m => match rsv a m, rsv b m with
  | .lst xs, .lst ys => if xs.length + ys.length ≤ lim then some (.ref m.length, m ++ [.lst (xs ++ ys)]) else none
  | _, _ => none
theorem rsv_at {t : List Addr} {H : Hp} {m : Sto} {d : D} {v : V} {ys : List D} (ss : SS G t H m) (r : RD G t H d v) (e : rsv d m = .lst ys) : ∃ p vs, v = .ref p ∧ LsAt H p vs ∧ RDs G t H ys vs := by
  unfold rsv at e
  split at e
  · split at e
    · rename_i hl
      cases e
      cases r with
      | ref ha =>
        obtain ⟨vs, hv, q⟩ := ss.lst hl ha
        exact ⟨_, vs, rfl, .inl hv, q⟩
    · cases e
  · subst e
    cases r with
    | lst s q => exact ⟨_, _, rfl, .inr s, q⟩
theorem op_catN : OpR X (binaryOp .Add) (rO2 G catN) := by
  intro pins s σ H x y v u Q I rx ry h
  obtain ⟨d1, d2, m, t, ss, r1, r2, k⟩ := h
  unfold catN at k
  split at k
  · rename_i xs ys e1 e2
    split at k
    · rename_i c
      obtain ⟨p1, v1, rfl, l1, q1⟩ := rsv_at ss r1 e1
      obtain ⟨p2, v2, rfl, l2, q2⟩ := rsv_at ss r2 e2
      refine op_catF pins s σ H _ _ v u Q I rx ry ⟨_, _, _, _, rfl, rfl, l1, l2, by rw [← q1.length, ← q2.length]; exact lim_le c, fun p hp => ?_⟩
      refine k _ _ (t ++ [p]) (Stp.grow hp) (ss.grow (q1.append q2) hp) (.ref ?_)
      rw [← ss.len]; simp
    · exact k.elim
  · exact k.elim

/-! ### repr of a mutable list -/
def reprRO : ON := fun ds m => match ds with
  | [d] => (match toPy (rsv d m) with
    | some y => if SeqAt.shaped y = true ∧ y.showable = true ∧ y.shown.length ≤ lim then some (.str y.shown, m) else none
    | none => none)
  | _ => none
theorem call_reprR_di (hK : G.K = X.K) (hg : X.A.guards = some []) (hu : X.A.units + 100 < cLine) : CallR X (.builtin "repr") (rON G reprRO) := by
  intro pins s σ H xs us Q I r h
  obtain ⟨ds, m, t, ss, rd, k⟩ := h
  unfold reprRO at k
  split at k
  · rename_i d
    obtain ⟨v, rfl, q⟩ := rd.one
    cases e : toPy (rsv d m) with
    | none => rw [e] at k; exact k.elim
    | some y =>
      rw [e] at k
      simp only at k
      split at k
      · rename_i c
        obtain ⟨c1, c2, c3⟩ := c
        have nd := shaped_nodict c1
        have dp := rsv_dp ss q e nd
        rw [hK] at dp
        have fin : Q (.str y.shown) H := KO.now k ss (.str _)
        obtain ⟨u, rfl, ru⟩ := vals1 r
        obtain ⟨as, rd2⟩ := Dp.reads I y v u dp ru
        cases rd2 with
        | none => exact PySem.P.repr_of_none ⟨.str _, H, I.tok _, ⟨_, rfl⟩, fin⟩
        | bool b => exact PySem.P.repr_of_bool ⟨.str _, H, I.tok _, ⟨_, rfl⟩, by simpa [PyData.shown] using fin⟩
        | int i tk => exact PySem.P.repr_of_int (by simpa [PyData.showable] using c2) ⟨.str _, H, I.tok _, ⟨_, rfl⟩, by simpa [PyData.shown] using fin⟩
        | str x tk => exact PySem.P.repr_of_str ⟨.str _, H, I.tok _, ⟨_, rfl⟩, by simpa [PyData.shown] using fin⟩ (by simpa [PyData.shown] using lim_le c3)
        | list h1 h2 h3 h4 => exact repr_ref I hg hu (.list h1 h2 h3 h4) c2 (fun z => by rw [nd] at z; cases z) (SeqAt.depth_of_shaped c1) (lim_le c3) fin
        | tuple h1 h2 h3 h4 => exact repr_ref I hg hu (.tuple h1 h2 h3 h4) c2 (fun z => by rw [nd] at z; cases z) (SeqAt.depth_of_shaped c1) (lim_le c3) fin
        | dict h1 h2 h3 h4 h5 => cases dp
      · exact k.elim
  · exact k.elim

/-! ### xs.clear() -/
def clearO : MO := fun x ds m => match x, ds with
  | .ref l, [] => (match m[l]? with
    | some (.lst _) => some (.non, m.set l (.lst []))
    | _ => none)
  | _, _ => none
theorem clear_mt : MtOk G X "list" "clear" "list.clear" okLst clearO := by
  refine ⟨F.plainAttrs_list, F.slot_list_clear, F.type_list_clear, _, mt_clear, fun t H m x v ss rd h => ?_, fun t0 H0 m0 t H m x v ds vs Q ex ss0 rx ho ss rds k => ?_⟩
  · unfold okLst isLst at h
    split at h
    · split at h
      · rename_i hl
        cases rd with
        | ref ha =>
          obtain ⟨vs, hv, q⟩ := ss.lst hl ha
          exact .inl ⟨rfl, vs, .inl (.inl hv)⟩
      · cases h
    · cases h
  · unfold clearO at k
    split at k
    · split at k
      · rename_i hl
        cases rx with
        | ref ha =>
          have ha := ex.le _ _ ha
          obtain ⟨us, hv, q⟩ := ss.lst hl ha
          cases rds
          exact ⟨_, us, rfl, rfl, hv, k _ _ t (Stp.put (List.mem_of_getElem? ha) hv trivial) (ss.put hl ha hv .nil) .non⟩
      · exact k.elim
    · exact k.elim

/-! ### the look-up in a written dict -/
def mKD (kvs : List (Str × D)) (b : M D) : M D := fun r m => (b r m).bind fun y m1 => match y with
  | .str z => (match kvs.lookup z with
    | some d => .ok d m1
    | none => .stuck)
  | _ => .stuck
theorem di_kd {x : Str} {p : Addr} {pos' : Pos} {kvs : List (Str × D)} (hg : Gl X x) (hm : X.mg x = some (.ref p)) (o1 : (x == ("__debug__" : Str)) = false) (hk : ∀ z d, kvs.lookup z = some d → ∃ v, KDct X.K X.w p z v ∧ ∀ t H, RD G t H d v) (hb : PE X b (RdE G W mb)) (hs : PlainIx b) : PE X (.Subscript (.Name x pos') b pos) (RdE G W (mKD kvs mb)) := by
  refine PE.imp (pe_ix ix_kdict (pe_glob (v := .ref p) hg hm rfl o1) hb hs) fun s H Q ⟨r, μ, t, se, ss, k⟩ => ?_
  refine rd_step se ss k fun d1 μ1 y H1 t1 _ se1 ss1 r1 k1 => ?_
  split at k1
  · rename_i z
    split at k1
    · rename_i d hd
      cases r1
      obtain ⟨v, kd, rd⟩ := hk z d hd
      exact ⟨p, z, v, rfl, rfl, kd, KE.ok_ k1 ss1 (rd _ _)⟩
    · exact k1.elim
  · exact k1.elim
theorem di_setLcN {i : Nat} {y : Str} {py spos : Pos} {elt tg iter : Expr} {ifs : List Expr} {scope : Scope} {own : List (Str × Nat)} {mi : M ItD} {p : P} {mc : M Bool} {me : M D} (hc : X.calm = true) (hN : X.N.Nodup) (hy : X.N[i]? = some y) (hyl : X.env.scope.names.lookup y = some .local)
    (hsw : swapsWith (.ListComp elt [⟨tg, iter, ifs, 0⟩] scope pos) (some (.Name y py)) spos.line X.env = pure true) (hi : PI X tg iter (RdI G W mi)) (ok : BlkOk X.N X.env.scope scope own) (hp : ∀ i ∈ slotsP p, i ∈ own.map (·.2)) (hv : ∀ i ∈ own.map (·.2), G.fr i = true) (hfr : G.fr i = true)
    (hg : ∀ (s : Shared) (H : Hp) (C : Addr) (cl : List (Str × Addr)) (fp : List Addr), PG (X.blk s H scope (compEnvC scope cl C X.env) fp) tg (RdG G p)) (ht : ∀ (s : Shared) (H : Hp) (C : Addr) (cl : List (Str × Addr)) (fp : List Addr), PTs (X.blk s H scope (compEnvC scope cl C X.env) fp) ifs (RdT G W0 mc))
    (he : ∀ (s : Shared) (H : Hp) (C : Addr) (cl : List (Str × Addr)) (fp : List Addr), PE (X.blk s H scope (compEnvC scope cl C X.env) fp) elt (RdE G W0 me)) (hs : ∀ x, foldedSetIterable iter X.env x = pure x) :
    PS X (.Assign [.Name y py] (.ListComp elt [⟨tg, iter, ifs, 0⟩] scope pos) spos) (RdS G W (sAsg (.nm i) (mLcN mi (own.map (·.2)) p mc me))) := by
  refine PS.imp (ps_setLc hc hN hy hyl hsw hi ok hg ht he hs) fun E σ H ⟨r, μ, t, se, ss, k⟩ => ?_
  exact lc_readsN (H1 := H) (Q := fun v H' => gName i v σ H' E.nx) hp hv (st_step (Q' := fun v H' => E.nx (σ.set i (some v)) H') se ss k fun d m1 v H1 t1 _ se1 ss1 rd k1 => KS.nx_ k1 (SE.set hfr se1 rd) ss1)
end
end DI

set_option Elab.async false
set_option linter.all false
set_option maxRecDepth 100000
set_option maxHeartbeats 4000000
/-! DITB: enumerate, list.index. -/
namespace DI
open PySem PySem.Spec L2
open PyProof.Rows hiding St

/-! ### enumerate(xs), xs a frozen list -/
def enumD (xs : List D) : List D := xs.zipIdx.map fun p => .tup [.int (p.2 : Nat), p.1]
def enI (ds : List D) : Option ItD := match ds with
  | [.lst xs] => some ⟨enumD xs, none⟩
  | _ => none
def mItN (ms : M (List D)) : M ItD := fun r m => (ms r m).bind fun ds m1 => match enI ds with
  | some it => .ok it m1
  | none => .stuck
theorem enumD_len (xs : List D) : (enumD xs).length = xs.length := by simp [enumD]
theorem enumD_at {xs : List D} {i : Nat} {d : D} (h : (enumD xs)[i]? = some d) : ∃ x, xs[i]? = some x ∧ d = .tup [.int (i : Nat), x] := by
  unfold enumD at h
  rw [List.getElem?_map, List.getElem?_zipIdx] at h
  cases e : xs[i]? with
  | none => rw [e] at h; simp at h
  | some x =>
    rw [e] at h
    simp at h
    exact ⟨x, rfl, h.symm⟩
section
variable {X : Cx} {G : Gx} {W : WX} {pos : Pos} {e o : Expr} {ma mo : M D} {ms : M (List D)}
theorem iter_enum {t1 : List Addr} {H1 : Hp} {a : Addr} {xs : List D} {vs : List V} (s1 : SqF H1 a vs) (r1 : RDs G t1 H1 xs vs) : IterOf G t1 H1 ⟨enumD xs, none⟩ (Ite G.K a) := by
  intro i H t m ex ss _
  have q : SqL G.K H a vs := (sqF_of ex.ex s1).l
  have r := r1.mono ex.le ex.ex
  refine ⟨fun h => ⟨vs, q, by rw [enumD_len] at h; rw [← r.length]; exact h⟩, fun d hd => ?_⟩
  obtain ⟨x, hx, rfl⟩ := enumD_at hd
  obtain ⟨v, hv, rv⟩ := r.get hx
  refine ⟨⟨vs, v, q, hv⟩, fun z H' yl => ?_⟩
  obtain ⟨T, u, rfl, hT, rfl, f⟩ := yl
  have e1 := f vs q
  rw [hv] at e1; cases e1
  have st : Stp t H t (upd H T (.tup [.int (i : Nat), v])) := Stp.fresh hT
  exact ⟨st, ss.new hT, .tup (.inl (.inl upd_same)) (.cons (.int _) (.cons (rv.mono st.le st.ex) .nil))⟩
theorem di_itN (hK : G.K = X.K) {p tpos : Pos} {elts : List Expr} {kk : Nat} (hg : Gl X "enumerate") (hm : X.mg "enumerate" = none) (ha : PA X [e] (RdA G W ms)) (hs : starEach [e] X.env = [(false, eval e X.env)]) :
    PI X (.Tuple elts kk tpos) (.Call (.Name "enumerate" p) [e] [] pos) (RdI G W (mItN ms)) := by
  refine PI.imp (pi_enum hg hm ha hs) fun s H Q ⟨r, μ, t, se, ss, k⟩ => ?_
  refine ⟨r, μ, t, se, ss, ?_⟩
  unfold mItN at k
  cases e1 : ms r μ with
  | stuck => rw [e1] at k; exact k
  | exc kk fs m => rw [e1] at k; exact k
  | ok ds m =>
    rw [e1] at k
    simp only [R.bind] at k
    intro v H1 t1 ex ss1 rd
    unfold enI at k
    split at k
    · rename_i it heq
      split at heq
      · cases heq
        obtain ⟨w, rfl, q⟩ := RDs.one rd
        cases q with
        | lst s q =>
          rw [← hK]
          exact ⟨_, _, rfl, s.l, k _ H1 t1 ex ss1 (iter_enum s q)⟩
      · cases heq
    · exact k.elim

/-! ### xs.index(y) -/
def okFz : D → Sto → Bool := fun x _ => match x with
  | .lst _ => true
  | _ => false
def indexO : MO := fun x ds m => match x, ds with
  | .lst xs, [y] => if isBase y && xs.all isBase then (xs.findIdx? fun z => eqFl z y).map fun j => (.int (j : Nat), m) else none
  | _, _ => none
theorem index_mt (hK : G.K = X.K) : MtOk G X "list" "index" "list.index" okFz indexO := by
  refine ⟨F.plainAttrs_list, F.slot_list_index, F.type_list_index, _, mt_index, fun t H m x v ss rd h => ?_, fun t0 H0 m0 t H m x v ds vs Q ex ss0 rx ho ss rds k => ?_⟩
  · unfold okFz at h
    split at h
    · cases rd with
      | lst s q => exact .inl ⟨rfl, _, s.l⟩
    · cases h
  · unfold indexO at k
    split at k
    · rename_i xs y
      split at k
      · rename_i c
        rw [Bool.and_eq_true] at c
        obtain ⟨d, e, k⟩ : ∃ j : Nat, (xs.findIdx? fun z => eqFl z y) = some j ∧ KO G (some (.int (j : Nat), m)) t H Q := by
          cases z : xs.findIdx? fun z => eqFl z y with
          | none => rw [z] at k; exact k.elim
          | some j => rw [z] at k; exact ⟨j, rfl, k⟩
        have rx := RD.mono ex.le ex.ex rx
        cases rx with
        | lst s q =>
          obtain ⟨u, rfl, ru⟩ := RDs.one rds
          rw [List.findIdx?_eq_some_iff_getElem] at e
          obtain ⟨hd, h1, h2⟩ := e
          obtain ⟨z, hz, rz⟩ := q.get (List.getElem?_eq_getElem hd)
          rw [← hK]
          refine ⟨_, _, _, d, z, rfl, rfl, s.l, base_flat ru c.1, base_all q c.2, hz, by rw [base_eq rz ru]; exact h1, fun i z' hi hz' => ?_, KO.now k ss (.int _)⟩
          obtain ⟨x', hx', rx'⟩ := q.get' hz'
          rw [base_eq rx' ru]
          have hil : i < xs.length := (List.getElem?_eq_some_iff.mp hx').1
          have := h2 i hi
          rw [List.getElem?_eq_getElem hil] at hx'
          cases hx'
          simpa using this
      · exact k.elim
    · exact k.elim

/-! ### f(x, ..), f a def of the text in a local name -/
def mCallV (call : CallF) (ok : Nat → Bool) (i : Nat) (ms : M (List D)) : M D := fun r m => match r[i]? with
  | some (some (.fn k)) => if ok k = true then mCall call k ms [] r m else .stuck
  | _ => .stuck
theorem callG_of {call : CallF} {k n : Nat} {s : L2.St} {H : Hp} {Q : VK} (hn : ∀ r m xs m1, ms r m = .ok xs m1 → xs.length = n) {r : DI.Env} {μ : Sto} {t : List Addr} (se : SE G t H r s) (ss : SS G t H μ) (kk : KE G W s (relD G) (mCall call k ms [] r μ) t H Q) :
    RdA G W ms s H fun vs H1 => spG G call k n (vs ++ []) H1 Q (fun c d H' => W c d s H') := by
  refine ⟨r, μ, t, se, ss, ?_⟩
  unfold mCall at kk
  cases e1 : ms r μ with
  | stuck => rw [e1] at kk; exact kk
  | exc _ _ _ => rw [e1] at kk; exact kk
  | ok xs m1 =>
    rw [e1] at kk
    intro vs H1 t1 ex ss1 rds
    have l1 := hn _ _ _ _ e1
    have rr : RDs G t1 H1 (xs ++ []) (vs ++ []) := rds.append .nil
    refine ⟨by rw [← rr.length, List.append_nil]; exact l1, xs ++ [], m1, t1, ss1, rr, ?_⟩
    have k1 : KE G W s (relD G) (call k (xs ++ []) m1) t1 H1 Q := KE.later ex kk
    cases e2 : call k (xs ++ []) m1 with
    | stuck => rw [e2] at k1; exact k1
    | exc _ _ _ => rw [e2] at k1; exact k1
    | ok _ _ => rw [e2] at k1; exact k1
theorem di_callV {call : CallF} {ok : Nat → Bool} {i n : Nat} {x : Str} {p : Pos} {es : List Expr} (hF : ∀ k, ok k = true → ∃ (f : Addr) (fd : FuncData) (ps : List Str) (lev : Nat) (ds : List Value), G.fa k = some f ∧ PySem.W.keepIn X.K (.ref f) = true ∧ Room lev X.A ∧ FnG X.prog X.w X.K X.mg X.base lev f fd ps (spG G call k n) ∧ Binds X.K fd ps ds ∧ Vals [] ds)
    (hgd : X.A.guards = some []) (hN : X.N[i]? = some x) (hv : Vis X.env.scope x) (tk : Takes X W) (ha : PA X (e :: es) (RdA G W ms)) (hn : ∀ r m xs m1, ms r m = .ok xs m1 → xs.length = n) (hdb : (x == ("__debug__" : Str)) = false) (hcd : (x == ("__classdict__" : Str)) = false)
    (he : starEach (e :: es) X.env = (false, eval e X.env) :: starEach es X.env) (hpl : (backTo pos (starEach es X.env)).any (·.1) = false) : PE X (.Call (.Name x p) (e :: es) [] pos) (RdE G W (mCallV call ok i ms)) := by
  refine ⟨fun pins s σ H Q I ⟨r, μ, t, se, ss, kk⟩ => ?_⟩
  unfold mCallV at kk
  split at kk
  · rename_i k hr
    split at kk
    · rename_i hk
      obtain ⟨v, hσ, rd⟩ := se.at_ i _ hr
      obtain ⟨f, fd, ps, lev, ds, h1, h2, h3, F, hb, hd⟩ := hF k hk
      have hvf : v = .ref f := by
        cases rd with
        | fn z => rw [h1] at z; cases z; rfl
      subst hvf
      refine wpAny_Call_Name_kw (thn ((pe_var (pos := p) hN hv hdb hcd).run pins s σ H (fun v H1 => v = .ref f ∧ H1 = H) I ⟨.ref f, hσ, rfl, rfl⟩) fun u s1 ⟨v, H1, I1, r1, q1⟩ => ?_)
      obtain ⟨rfl, rfl⟩ := q1
      cases r1
      refine PySem.W.callWith_K (h₀ := X.base) I.ok.mod.kin h2 (thn (ha.run pos pins s1 σ _ _ I1 (callG_of hn se ss kk)) fun us s2 ⟨vs, H2, I2, r, q⟩ => ⟨I2.kIn, goG F h3 hgd hb hd tk I2 r q⟩) he hpl
    · exact kk.elim
  · exact kk.elim
end
end DI

set_option Elab.async false
set_option linter.all false
set_option maxRecDepth 100000
set_option maxHeartbeats 4000000
/-! DITC: dict comprehensions whose keys are numbers or texts, each but once. -/
namespace DI
open PySem PySem.Spec L2
open PyProof.Rows hiding St
open Classical in
noncomputable def dcL (live : Sto → Prop) (p : P) (mc : M Bool) (mk mv : M D) (r : Env) : List D → List (D × D) → Sto → R D
  | [], acc, m => if live m then .ok (.dct acc) m else .stuck
  | d :: ds, acc, m => if live m then (match bindP p d r with
    | none => .stuck
    | some r1 => match mc r1 m with
      | .ok true m1 => (match mk r1 m1 with
        | .ok y m2 => (match mv r1 m2 with
          | .ok z m3 => if acc.length < lim ∧ keyOk y = true ∧ dGet acc y = none then dcL live p mc mk mv r ds (acc ++ [(y, z)]) m3 else .stuck
          | _ => .stuck)
        | _ => .stuck)
      | .ok false m1 => dcL live p mc mk mv r ds acc m1
      | _ => .stuck) else .stuck
noncomputable def mDc (mi : M ItD) (own : List Nat) (p : P) (mc : M Bool) (mk mv : M D) : M D := fun r m => (mi r m).bind fun it m1 => dcL (Live it) p mc mk mv (wipeE r own) it.items [] m1
theorem dcL_cons {live : Sto → Prop} {p : P} {mc : M Bool} {mk mv : M D} {r : Env} {d : D} {ds : List D} {acc : List (D × D)} {m : Sto} (h : live m) : dcL live p mc mk mv r (d :: ds) acc m = (match bindP p d r with
    | none => .stuck
    | some r1 => match mc r1 m with
      | .ok true m1 => (match mk r1 m1 with
        | .ok y m2 => (match mv r1 m2 with
          | .ok z m3 => if acc.length < lim ∧ keyOk y = true ∧ dGet acc y = none then dcL live p mc mk mv r ds (acc ++ [(y, z)]) m3 else .stuck
          | _ => .stuck)
        | _ => .stuck)
      | .ok false m1 => dcL live p mc mk mv r ds acc m1
      | _ => .stuck) := by
  rw [dcL, if_pos h]
theorem dcL_live {live : Sto → Prop} {p : P} {mc : M Bool} {mk mv : M D} {r : Env} {ds : List D} {acc : List (D × D)} {m : Sto} (h : ¬ live m) : dcL live p mc mk mv r ds acc m = .stuck := by
  cases ds with
  | nil => rw [dcL, if_neg h]
  | cons d ds => rw [dcL, if_neg h]
section
variable {X : Cx} {G : Gx} {W : WX} {pos : Pos}
theorem RDk.length {t : List Addr} {H : Hp} : ∀ {ds : List (D × D)} {kvs : List (Key × V)}, RDk G t H ds kvs → ds.length = kvs.length
  | _, _, .nil => rfl
  | _, _, .cons _ r => by rw [List.length_cons, List.length_cons, RDk.length r]
theorem RDk.snoc {t : List Addr} {H : Hp} {k : Key} {d : D} {v : V} (rd : RD G t H d v) : ∀ {ds : List (D × D)} {kvs : List (Key × V)}, RDk G t H ds kvs → RDk G t H (ds ++ [(keyD k, d)]) (kvs ++ [(k, v)])
  | _, _, .nil => .cons rd .nil
  | _, _, .cons a r => .cons a (RDk.snoc rd r)
theorem key_of_rd {t : List Addr} {H : Hp} {y : D} {u : V} (h : keyOk y = true) (r : RD G t H y u) : ∃ k, y = keyD k ∧ u = kV k := by
  cases r <;> first | (exact ⟨.inr _, rfl, rfl⟩) | (exact ⟨.inl _, rfl, rfl⟩) | (cases h)
theorem dGet_none {t : List Addr} {H : Hp} {k : Key} : ∀ {ds : List (D × D)} {kvs : List (Key × V)}, RDk G t H ds kvs → dGet ds (keyD k) = none → valV kvs k = none
  | _, _, .nil, _ => rfl
  | _, _, .cons (k := j) (v := v) a r, e => by
    cases j with
    | inl i =>
      cases k with
      | inl x =>
        simp only [keyD, dGet] at e
        split at e
        · cases e
        · rename_i q
          rw [valV_neg (show ¬ _ = _ from fun z => q (Sum.inl.inj z))]
          exact dGet_none (k := .inl x) r e
      | inr x =>
        rw [valV_neg (show ¬ _ = _ from fun z => by cases z)]
        exact dGet_none (k := .inr x) r e
    | inr i =>
      cases k with
      | inr x =>
        simp only [keyD, dGet] at e
        split at e
        · cases e
        · rename_i q
          rw [valV_neg (show ¬ _ = _ from fun z => q (Sum.inr.inj z))]
          exact dGet_none (k := .inr x) r e
      | inl x =>
        rw [valV_neg (show ¬ _ = _ from fun z => by cases z)]
        exact dGet_none (k := .inl x) r e
theorem dc_reads {s : St} {H1 : Hp} {Q : VK} {mi : M ItD} {own : List Nat} {p : P} {mc : M Bool} {mk mv : M D} (hp : ∀ i ∈ slotsP p, i ∈ own) (hfv : ∀ i ∈ own, G.fr i = true) {H : Hp} (h : RdE G W (mDc mi own p mc mk mv) s H Q) : tDc (RdI G W mi) (RdG G p) (RdT G W0 mc) (RdE G W0 mk) (RdE G W0 mv) own s H (WantFd Q) := by
  obtain ⟨r, μ, t, se, ss, k⟩ := h
  refine rd_step se ss k fun it m1 J H1 t1 _ se1 ss1 io k1 => ?_
  intro Dl hD
  have hDt : Dl ∉ t1 := fun z => by obtain ⟨u, e⟩ := ss1.kn _ z; rw [hD] at e; cases e
  refine ⟨fun i n H2 => n = it.items.length - i ∧ i ≤ it.items.length ∧ ∃ acc vs m2 t2, Stp t1 H1 t2 H2 ∧ Dl ∉ t2 ∧ SS G t2 H2 m2 ∧ H2 Dl = some (.dK vs) ∧ RDk G t2 H2 acc vs ∧ KE G W s (relD G) (dcL (Live it) p mc mk mv (wipeE r own) (it.items.drop i) acc m2) t1 H1 Q,
    ⟨it.items.length, rfl, Nat.zero_le _, [], [], m1, t1, Stp.fresh hD, hDt, ss1.new hD, upd_same, .nil, k1⟩, ?_⟩
  rintro i n H2 ⟨rfl, hi2, acc, vs, m2, t2, ex, nt2, ss2, hv, ra, k2⟩
  by_cases lv : Live it m2
  · obtain ⟨st, go⟩ := io i H2 t2 m2 ex ss2 lv
    by_cases hlt : i < it.items.length
    · obtain ⟨g1, g2⟩ := go it.items[i] (List.getElem?_eq_getElem hlt)
      rw [List.drop_eq_getElem_cons hlt, dcL_cons lv] at k2
      refine .inr ⟨g1, fun H' => i + 1 ≤ it.items.length ∧ ∃ acc vs m2 t2, Stp t1 H1 t2 H' ∧ Dl ∉ t2 ∧ SS G t2 H' m2 ∧ H' Dl = some (.dK vs) ∧ RDk G t2 H' acc vs ∧ KE G W s (relD G) (dcL (Live it) p mc mk mv (wipeE r own) (it.items.drop (i + 1)) acc m2) t1 H1 Q, fun H' q => ⟨it.items.length - (i + 1), by omega, rfl, q.1, q.2⟩, fun x H3 y => ?_⟩
      obtain ⟨ex3, ss3, rd3⟩ := g2 x H3 y
      have hv3 := ex3.keep _ _ hv nt2
      cases e : bindP p it.items[i] (wipeE r own) with
      | none => rw [e] at k2; exact k2.elim
      | some r3 =>
        rw [e] at k2
        refine ⟨_, wipeE r own, t2, r3, ((se1.wipe own hfv).mono (ex.trans ex3).le (ex.trans ex3).ex), rd3, e, fun s' H5 u5 se' bt => ⟨wipe_but bt hp, r3, m2, t2, se', ss3.up u5, ?_⟩⟩
        have hv3 := u5 _ _ hv3
        have ex3 := ex3.trans u5.stp
        simp only at k2
        cases ec : mc r3 m2 with
        | stuck => rw [ec] at k2; exact k2.elim
        | exc kk fs m4 => rw [ec] at k2; exact k2.elim
        | ok b m4 =>
          rw [ec] at k2
          intro b' H4 t4 ex4 ss4 rb
          cases rb
          have ex24 := ex3.trans ex4
          have nt4 : Dl ∉ t4 := fun z => (ex4.new _ z).elim nt2 fun q => by rw [hv3] at q; cases q
          have hv4 := ex4.keep _ _ hv3 nt2
          cases b with
          | false =>
            exact ⟨hlt, acc, vs, m4, t4, ex.trans ex24, nt4, ss4, hv4, ra.mono ex24.le ex24.ex, k2⟩
          | true =>
            refine ⟨r3, m4, t4, se'.mono ex4.le ex4.ex, ss4, ?_⟩
            simp only at k2
            cases ey : mk r3 m4 with
            | stuck => rw [ey] at k2; exact k2.elim
            | exc kk fs m5 => rw [ey] at k2; exact k2.elim
            | ok y m5 =>
              rw [ey] at k2
              simp only at k2
              intro u H5 t5 ex5 ss5 ru
              have hv5 := ex5.keep _ _ hv4 nt4
              have nt5 : Dl ∉ t5 := fun z => (ex5.new _ z).elim nt4 fun q => by rw [hv4] at q; cases q
              have ex25 := ex24.trans ex5
              refine ⟨r3, m5, t5, se'.mono (ex4.trans ex5).le (ex4.trans ex5).ex, ss5, ?_⟩
              cases ez : mv r3 m5 with
              | stuck => rw [ez] at k2; exact k2.elim
              | exc kk fs m6 => rw [ez] at k2; exact k2.elim
              | ok z m6 =>
                rw [ez] at k2
                simp only at k2
                intro v H6 t6 ex6 ss6 rv
                have hv6 := ex6.keep _ _ hv5 nt5
                have nt6 : Dl ∉ t6 := fun z => (ex6.new _ z).elim nt5 fun q => by rw [hv5] at q; cases q
                have ex26 := ex25.trans ex6
                split at k2
                · rename_i hl
                  obtain ⟨hl1, hl2, hl3⟩ := hl
                  obtain ⟨k0, rfl, rfl⟩ := key_of_rd hl2 ru
                  have ra6 := ra.mono ex26.le ex26.ex
                  have vn := dGet_none ra6 hl3
                  refine ⟨vs, k0, rfl, hv6, by rw [← ra.length]; exact lim_lt hl1, hlt, acc ++ [(keyD k0, z)], vs ++ [(k0, v)], m6, t6, ?_, nt6, ss6.out nt6 hv6 trivial, ?_, ?_, k2⟩
                  · exact (ex.trans ex26).over hD hv6 trivial
                  · rw [putK_new v vn]; exact upd_same
                  · exact (RDk.snoc rv ra6).mono (Le.refl _) (Ext.put hv6 trivial)
                · exact k2.elim
    · have e : i = it.items.length := by omega
      subst e
      refine .inl ⟨st (Nat.le_refl _), ?_⟩
      rw [List.drop_length, dcL, if_pos lv] at k2
      refine ⟨Dl, vs, rfl, hv, fun o => ?_⟩
      exact k2 _ _ t2 (ex.over hD hv trivial) (ss2.out nt2 hv trivial) (.dct ⟨o, upd_same⟩ (ra.mono (Le.refl _) (Ext.put hv trivial)))
  · rw [dcL_live lv] at k2
    exact k2.elim
theorem di_dc {kx vx tg iter : Expr} {ifs : List Expr} {scope : Scope} {own : List (Str × Nat)} {mi : M ItD} {p : P} {mc : M Bool} {mk mv : M D} (hc : X.calm = true) (hN : X.N.Nodup) (hi : PI X tg iter (RdI G W mi)) (ok : BlkOk X.N X.env.scope scope own) (hp : ∀ i ∈ slotsP p, i ∈ own.map (·.2)) (hv : ∀ i ∈ own.map (·.2), G.fr i = true)
    (hg : ∀ (s : Shared) (H : Hp) (C : Addr) (cl : List (Str × Addr)) (fp : List Addr), PG (X.blk s H scope (compEnvC scope cl C X.env) fp) tg (RdG G p)) (ht : ∀ (s : Shared) (H : Hp) (C : Addr) (cl : List (Str × Addr)) (fp : List Addr), PTs (X.blk s H scope (compEnvC scope cl C X.env) fp) ifs (RdT G W0 mc))
    (hk : ∀ (s : Shared) (H : Hp) (C : Addr) (cl : List (Str × Addr)) (fp : List Addr), PE (X.blk s H scope (compEnvC scope cl C X.env) fp) kx (RdE G W0 mk))
    (he : ∀ (s : Shared) (H : Hp) (C : Addr) (cl : List (Str × Addr)) (fp : List Addr), PE (X.blk s H scope (compEnvC scope cl C X.env) fp) vx (RdE G W0 mv)) (hs : ∀ x, foldedSetIterable iter X.env x = pure x) :
    PE X (.DictComp kx vx [⟨tg, iter, ifs, 0⟩] scope pos) (RdE G W (mDc mi (own.map (·.2)) p mc mk mv)) :=
  PE.imp (pe_frzd (pe_dc hc hN hi ok hg ht hk he hs)) fun s H Q h => dc_reads (H1 := H) hp hv h
end
end DI

set_option Elab.async false
set_option linter.all false
set_option maxRecDepth 100000
set_option maxHeartbeats 4000000
/-! DIK: a translator from the text's trees to actions. -/
namespace DI
open PySem PySem.Spec L2
open PyProof.Rows hiding St

structure TC where
  N : List Str
  gl : List (Str × D)
  no : List Str
  call : CallF
  sg : List (Nat × Nat × List D)
  ml : List (Nat × Nat)
  xc : List (Nat × XC)
  isa : Isa
  kd : List (Str × List (Str × D))
structure SC where
  sc : Scope
  ok : Str → Bool
  ex : Option (Str × Nat × Nat × List (Str × D)) := none
  calm : Bool := true
/-- the slots that may be stored to -/
def SC.fre (S : SC) (i : Nat) : Bool := match S.ex with
  | some (_, j, _) => !decide (j = i)
  | none => true
def SC.kind (S : SC) (x : Str) : Option NameKind := S.sc.names.lookup x
def visB (k : Option NameKind) : Bool := match k with
  | some .local => true
  | some .cell => true
  | some .free => true
  | _ => false
def locB (k : Option NameKind) : Bool := match k with
  | some .local => true
  | some .cell => true
  | _ => false
def gloB (k : Option NameKind) : Bool := match k with
  | some .globalImplicit => true
  | _ => false
def isLocal (k : Option NameKind) : Bool := match k with
  | some .local => true
  | _ => false
def posIn : List Str → Str → Nat → Option Nat
  | [], _, _ => none
  | y :: ys, x, i => if x = y then some i else posIn ys x (i + 1)
def ixOf (N : List Str) (x : Str) : Option Nat := posIn N x 0
theorem posIn_ok {x : Str} : ∀ {N : List Str} {i j : Nat}, posIn N x i = some j → i ≤ j ∧ N[j - i]? = some x
  | [], _, _, h => by cases h
  | y :: ys, i, j, h => by
    unfold posIn at h
    split at h
    · rename_i e; subst e; cases h; simp
    · obtain ⟨h1, h2⟩ := posIn_ok h
      refine ⟨by omega, ?_⟩
      have : j - i = (j - (i + 1)) + 1 := by omega
      rw [this, List.getElem?_cons_succ]; exact h2
theorem ixOf_ok {N : List Str} {x : Str} {j : Nat} (h : ixOf N x = some j) : N[j]? = some x := by
  have := (posIn_ok h).2; simpa using this
def oddN (x : Str) : Bool := decide (x = "__debug__") || decide (x = "__classdict__") || decide (x = "__name__")
theorem oddN_ok {x : Str} (h : oddN x = false) : (x == ("__debug__" : Str)) = false ∧ (x == ("__classdict__" : Str)) = false ∧ x ≠ "__name__" := by
  simp only [oddN, Bool.or_eq_false_iff, decide_eq_false_iff_not] at h
  exact ⟨by simpa using h.1.1, by simpa using h.1.2, h.2⟩

/-! ### built-ins -/
structure BL where
  fn : Bool
  id : String
  f : ON
def bltO (x : Str) : Option BL :=
  if x = "len" then some ⟨true, "len", lenO⟩ else if x = "isinstance" then some ⟨true, "isinstance", isiO⟩ else if x = "repr" then some ⟨true, "repr", reprO⟩
  else if x = "tuple" then some ⟨false, "tuple", tupleO⟩ else if x = "list" then some ⟨false, "list", listO⟩ else if x = "str" then some ⟨false, "str", strO⟩ else if x = "int" then some ⟨false, "int", intO⟩
  else if x = "any" then some ⟨true, "any", anyO⟩ else if x = "all" then some ⟨true, "all", allO⟩ else if x = "sum" then some ⟨true, "sum", sumO⟩
  else if x = "abs" then some ⟨true, "abs", absO⟩ else if x = "max" then some ⟨true, "max", maxO⟩ else if x = "min" then some ⟨true, "min", minO⟩ else none
def tyN (x : Str) : Option String :=
  if x = "int" then some "int" else if x = "str" then some "str" else if x = "bool" then some "bool" else if x = "tuple" then some "tuple" else if x = "list" then some "list" else if x = "dict" then some "dict" else none

def needCalm (x : Str) : Bool := decide (x = "any") || decide (x = "all") || decide (x = "sum") || decide (x = "max") || decide (x = "min")
def xtyN (x : Str) : Option String :=
  if x = "ValueError" then some "ValueError" else if x = "KeyError" then some "KeyError" else if x = "IndexError" then some "IndexError" else if x = "ZeroDivisionError" then some "ZeroDivisionError" else if x = "OverflowError" then some "OverflowError"
  else if x = "RuntimeError" then some "RuntimeError" else if x = "LookupError" then some "LookupError" else if x = "ArithmeticError" then some "ArithmeticError" else if x = "TypeError" then some "TypeError" else if x = "Exception" then some "Exception" else none
/-- the name of an exception class -/
def ckE (T : TC) (S : SC) : Expr → Option CK
  | .Name x _ => if oddN x then none else if gloB (S.kind x) then (match T.gl.lookup x with
    | some (.cls j) => some (.own j)
    | some _ => none
    | none => if x ∈ T.no then (xtyN x).map CK.ty else none) else none
  | _ => none
def cksE (T : TC) (S : SC) : List Expr → Option (List CK)
  | [] => some []
  | e :: es => (ckE T S e).bind fun c => (cksE T S es).bind fun l => some (c :: l)
/-- isinstance of the exception that the suite holds -/
def isE (T : TC) (S : SC) (x : Str) (es : List Expr) : Option (M D) := match S.ex, es with
  | some (n, _, k, _), [.Name n' _, c] => if x = "isinstance" ∧ n' = n ∧ gloB (S.kind x) = true ∧ x ∈ T.no then (match c with
    | .Tuple cs _ _ => if cs.length ≤ 100 then (cksE T S cs).bind fun l => if l.isEmpty then none else some (mIs T.isa k l) else none
    | .Name y p => (ckE T S (.Name y p)).map fun c => mIs T.isa k [c]
    | _ => none) else none
  | _, _ => none
def fldE (T : TC) (S : SC) : Expr → Str → Option (M D)
  | .Name n' _, f => (match S.ex with
    | some (n, _, k, fs) => if n' = n then some (mFld T.xc k fs f) else none
    | none => none)
  | _, _ => none

/-! ### the translator -/
/-- a mark at a place of the text: 1 frozen at this use, 2 a comparison that looks into mutable lists, 3 list() to be changed, 4 + to be changed, 5 a comprehension to be changed, 6 a look-up in a dict, 7 repr of a mutable list -/
def flag (T : TC) (k : Nat) (p : Pos) : Bool := decide ((p.line, p.col + 1000 * k) ∈ T.ml)
structure Tr where
  ev : SC → Expr → Option (M D)
  evT : SC → Expr → Option (M Bool)
def notStar : Expr → Bool
  | .Starred .. => false
  | _ => true
def constE : Const → Option (M D)
  | .none => some (mC .non)
  | .bool b => some (mC (.bl b))
  | .int i => some (mC (.int i))
  | .str x => some (mC (.str x))
  | _ => none
def nmE (T : TC) (S : SC) (x : Str) : Option (M D) :=
  if oddN x then none else if visB (S.kind x) then (ixOf T.N x).map mVar
  else if gloB (S.kind x) then (match T.gl.lookup x with
    | some d => some (mC d)
    | none => if x ∈ T.no then (tyN x).map fun n => mC (.ty n) else none)
  else none
def evsL (t : Tr) (S : SC) : List Expr → Option (M (List D))
  | [] => some mNil
  | e :: es => if notStar e then (t.ev S e).bind fun p => (evsL t S es).bind fun q => some (mCons p q) else none
def boolE (t : Tr) (S : SC) (op : BoolOp) : List Expr → Option (M D)
  | [] => none
  | [a] => t.ev S a
  | a :: b :: r => (t.ev S a).bind fun p => (boolE t S op (b :: r)).bind fun q => some (match op with
    | .And => mAndV p q
    | .Or => mOrV p q)
def boolT (t : Tr) (S : SC) (op : BoolOp) : List Expr → Option (M Bool)
  | [] => none
  | [a] => t.evT S a
  | a :: b :: r => (t.evT S a).bind fun p => (boolT t S op (b :: r)).bind fun q => some (match op with
    | .And => mAndT p q
    | .Or => mOrT p q)
def cmpE (t : Tr) (S : SC) (a : Expr) : List CmpOp → List Expr → Option (M D)
  | [o], [b] => if behindInMarks o b then none else (t.ev S a).bind fun p => (t.ev S b).bind fun q => some (mAp2 (cmpS o) p q)
  | [o1, o2], [b, c] => if lastMarks [o1, o2] [b, c] then none else (t.ev S a).bind fun p => (t.ev S b).bind fun q => (t.ev S c).bind fun r => some (mChain o1 o2 p q r)
  | _, _ => none
def cmpTst (t : Tr) (S : SC) (a : Expr) : List CmpOp → List Expr → Option (M Bool)
  | [o], [b] => if behindInMarks o b then none else (t.ev S a).bind fun p => (t.ev S b).bind fun q => some (mCmpT o p q)
  | [o1, o2], [b, c] => if lastMarks [o1, o2] [b, c] then none else (t.ev S a).bind fun p => (t.ev S b).bind fun q => (t.ev S c).bind fun r => some (mChainT o1 o2 p q r)
  | _, _ => none
def partE (t : Tr) (S : SC) : Option Expr → Option (M (Option Int))
  | none => some mNoP
  | some e => (t.ev S e).map mPart
def plainIxB : Expr → Bool
  | .Slice .. => false
  | _ => true
def subE (t : Tr) (S : SC) (a b : Expr) : Option (M D) := match b with
  | .Slice lo hi none _ => (t.ev S a).bind fun p => (partE t S lo).bind fun q => (partE t S hi).bind fun r => some (mSl p q r)
  | _ => if plainIxB b then (t.ev S a).bind fun p => (t.ev S b).bind fun q => some (mAp2 ixO p q) else none
def plainBase : Expr → Bool
  | .Call .. => false
  | _ => true
def okL (l : List (Nat × Nat)) (n k : Nat) : Bool := match l.lookup k with
  | some np => decide (np = n)
  | none => false
def okA (T : TC) (n : Nat) : Nat → Bool := okL (T.sg.map fun z => (z.1, z.2.1)) n
theorem lookup_map1 {k np : Nat} : ∀ {l : List (Nat × Nat × List D)}, (l.map fun z => (z.1, z.2.1)).lookup k = some np → ∃ dfl, l.lookup k = some (np, dfl)
  | [], h => by cases h
  | (a, b, d) :: l, h => by
    rw [List.map_cons, List.lookup_cons] at h
    rw [List.lookup_cons]
    cases e : k == a with
    | true => rw [e] at h; cases h; exact ⟨d, rfl⟩
    | false => rw [e] at h; exact lookup_map1 h
def callN0 (T : TC) (t : Tr) (S : SC) (x : Str) (es : List Expr) : Option (M D) :=
  if oddN x then none else if gloB (S.kind x) then (match T.gl.lookup x with
    | some (.fn k) => if S.calm then (match T.sg.lookup k with
      | some (np, dfl) => if es.length ≤ np ∧ np ≤ es.length + dfl.length then (evsL t S es).map fun q => mCall T.call k q (dfl.drop (es.length + dfl.length - np)) else none
      | none => none) else none
    | some _ => none
    | none => if x ∈ T.no ∧ (S.calm || !needCalm x) = true then (match es with
      | [] => none
      | _ :: _ => (bltO x).bind fun b => (evsL t S es).map fun q => mApN b.f q) else none)
  else if visB (S.kind x) && S.calm then (match es with
    | [] => none
    | _ :: _ => (ixOf T.N x).bind fun i => (evsL t S es).map fun q => mCallV T.call (okA T es.length) i q) else none
def callN (T : TC) (t : Tr) (S : SC) (x : Str) (es : List Expr) : Option (M D) := match isE T S x es with
  | some m => some m
  | none => callN0 T t S x es
/-- methods of built-in types: by name and number of arguments -/
def mtO (a : Str) (n : Nat) : Option ((D → Sto → Bool) × MO) :=
  if a = "partition" ∧ n = 1 then some (okStr, partitionO) else if a = "split" ∧ n = 1 then some (okStr, splitO) else if a = "startswith" ∧ n = 1 then some (okStr, startsO)
  else if a = "endswith" ∧ n = 1 then some (okStr, endsO) else if a = "join" ∧ n = 1 then some (okStr, joinO) else if a = "clear" ∧ n = 0 then some (okLst, clearO) else if a = "index" ∧ n = 1 then some (okFz, indexO) else none
def jsL (t : Tr) (S : SC) : List Expr → Option (List (M D))
  | [] => some []
  | e :: es => (t.ev S e).bind fun p => (jsL t S es).bind fun q => some (p :: q)
def jsE (t : Tr) (S : SC) : List Expr → Option (M D)
  | [] => none
  | [e] => t.ev S e
  | es => (jsL t S es).map fun l => mJs l Str.empty
def callE (T : TC) (t : Tr) (S : SC) (f : Expr) (es : List Expr) (ks : List Keyword) (cp : Pos) : Option (M D) := match f, ks with
  | .Name x _, [] => callN T t S x es
  | .Attribute o a ap, [] => if a = "append" then (match es with
    | [e] => if plainBase o && notStar e && (ap.endLine == cp.line) then (t.ev S o).bind fun p => (t.ev S e).bind fun q => some (mApp p (mCons q mNil)) else none
    | _ => none) else (mtO a es.length).bind fun z => if plainBase o && (ap.endLine == cp.line) then (t.ev S o).bind fun p => (evsL t S es).map fun q => mMt z.1 z.2 p q else none
  | _, _ => none
mutual
def tgP (T : TC) (S : SC) : Expr → Option P
  | .Name x _ => if locB (S.kind x) && (S.ok x || isLocal (S.kind x)) then (ixOf T.N x).bind fun i => if S.fre i then some (.nm i) else none else none
  | .Tuple es _ _ => if S.calm then (match tgPs T S es with
    | some ps => some (.tp ps)
    | none => (match tgS T S es with
      | some z => some (.tpS z.1 z.2)
      | none => (tgF T S es).map fun z => .tpM z.1 z.2)) else none
  | _ => none
def tgPs (T : TC) (S : SC) : List Expr → Option (List P)
  | [] => some []
  | e :: es => if notStar e then (tgP T S e).bind fun p => (tgPs T S es).bind fun ps => some (p :: ps) else none
def tgS (T : TC) (S : SC) : List Expr → Option (List P × P)
  | [] => none
  | [.Starred t _] => (tgP T S t).map fun q => ([], q)
  | e :: es => if notStar e then (tgP T S e).bind fun p => (tgS T S es).bind fun z => some (p :: z.1, z.2) else none
def tgF (T : TC) (S : SC) : List Expr → Option (P × List P)
  | .Starred t _ :: es => (tgP T S t).bind fun q => (tgPs T S es).bind fun rs => some (q, rs)
  | _ => none
end
def isTupE : Expr → Bool
  | .Tuple .. => true
  | _ => false
def isTrueE : Expr → Bool
  | .Constant (.bool true) _ _ => true
  | _ => false
def notSet : Expr → Bool
  | .Set .. => false
  | _ => true
def zipKw : List Keyword → Option Bool
  | [] => some false
  | [⟨some k, .Constant (.bool true) _ _, _⟩] => if k = "strict" then some true else none
  | _ => none
def itE (T : TC) (t : Tr) (S : SC) (tg e : Expr) : Option (M ItD) := match e with
  | .Call (.Name x _) es ks _ => if x = "range" then (if gloB (S.kind x) && decide (x ∈ T.no) && ks.isEmpty then (match es with
      | [_] => (evsL t S es).map mItR
      | [_, _] => (evsL t S es).map mItR
      | _ => none) else none)
    else if x = "zip" then (if gloB (S.kind x) && decide (x ∈ T.no) && isTupE tg then (match es with
      | [_, _] => (zipKw ks).bind fun b => (evsL t S es).map (mItZ b)
      | _ => none) else none)
    else if x = "enumerate" then (if gloB (S.kind x) && decide (x ∈ T.no) && isTupE tg && ks.isEmpty then (match es with
      | [_] => (evsL t S es).map mItN
      | _ => none) else none)
    else (t.ev S e).map mItV
  | _ => if notSet e then (t.ev S e).map mItV else none
def SC.blk (S : SC) (sc : Scope) : SC := ⟨relS sc S.sc, fun x => match sc.names.lookup x with
  | some .cell => true
  | _ => false, none, S.calm⟩
def ownOf (N : List Str) (sc : Scope) : List (Str × Nat) := sc.names.filterMap fun y => match y.2 with
  | .local => (ixOf N y.1).map fun i => (y.1, i)
  | .cell => (ixOf N y.1).map fun i => (y.1, i)
  | _ => none
def ifsE (t : Tr) (S : SC) : List Expr → Option (M Bool)
  | [] => some mYes
  | [c] => t.evT S c
  | _ => none
noncomputable def lcE (T : TC) (t : Tr) (S : SC) (nw : Bool) (elt : Expr) (gs : List Comprehension) (sc : Scope) : Option (M D) := match gs with
  | [⟨tg, iter, ifs, 0⟩] =>
    if S.calm && notSet iter && blkC T.N S.sc sc (ownOf T.N sc) then
      (itE T t S tg iter).bind fun mi => (tgP T (S.blk sc) tg).bind fun p => (ifsE t (S.blk sc) ifs).bind fun mc => (t.ev (S.blk sc) elt).bind fun me =>
        if (slotsP p).all fun i => decide (i ∈ (ownOf T.N sc).map (·.2)) then some (if nw then mLcN mi ((ownOf T.N sc).map (·.2)) p mc me else mLc mi ((ownOf T.N sc).map (·.2)) p mc me) else none
    else none
  | _ => none
noncomputable def stepE (T : TC) (t : Tr) (S : SC) (e : Expr) : Option (M D) := match e with
  | .Constant c _ _ => constE c
  | .Name x _ => nmE T S x
  | .BinOp a op b _ => (t.ev S a).bind fun p => (t.ev S b).bind fun q => some (mAp2 (binS op) p q)
  | .UnaryOp .Not a _ => (t.ev S a).map mNotV
  | .UnaryOp op a _ => (t.ev S a).map (mAp1 (unS op))
  | .Compare a ops bs _ => cmpE t S a ops bs
  | .BoolOp op vs _ => boolE t S op vs
  | .IfExp c a b _ => (t.evT S c).bind fun p => (t.ev S a).bind fun q => (t.ev S b).bind fun r => some (mIf p q r)
  | .Tuple es _ _ => (evsL t S es).map (mApN tupO)
  | .List es p => (evsL t S es).map (mApN (if (p.line, p.col) ∈ T.ml then newL else lstO))
  | .Subscript a b _ => subE t S a b
  | .Call f es ks p => callE T t S f es ks p
  | .ListComp elt gs sc p => lcE T t S (flag T 5 p) elt gs sc
  | .Attribute o f _ => fldE T S o f
  | .FormattedValue e (-1) none _ => (t.ev S e).map (mAp1 fmtO)
  | .JoinedStr es _ => jsE t S es
  | .Dict [] [] _ => some (mC (.dct []))
  | _ => none
def trulyB : Expr → Bool
  | .UnaryOp .Not _ _ => false
  | .BoolOp .. => false
  | .IfExp .. => false
  | .Compare .. => false
  | _ => true
def stepT (T : TC) (t : Tr) (S : SC) (e : Expr) : Option (M Bool) := match e with
  | .UnaryOp .Not a _ => (t.evT S a).map mNotT
  | .BoolOp op vs _ => boolT t S op vs
  | .Compare a ops bs _ => cmpTst t S a ops bs
  | _ => if trulyB e then (t.ev S e).map mTru else none
def dctE (t : Tr) (S : SC) : List (Option Expr) → List Expr → Option (List (Str × M D))
  | [], [] => some []
  | some (.Constant (.str x) _ _) :: ks, e :: es => (t.ev S e).bind fun p => (dctE t S ks es).bind fun q => some ((x, p) :: q)
  | _, _ => none
def kdE (T : TC) (t : Tr) (S : SC) (x : Str) (b : Expr) : Option (M D) :=
  if oddN x then none else if gloB (S.kind x) && plainIxB b then (T.kd.lookup x).bind fun kvs => (t.ev S b).map (mKD kvs) else none
noncomputable def dcE (T : TC) (t : Tr) (S : SC) (kx vx : Expr) (gs : List Comprehension) (sc : Scope) : Option (M D) := match gs with
  | [⟨tg, iter, ifs, 0⟩] =>
    if S.calm && notSet iter && blkC T.N S.sc sc (ownOf T.N sc) then
      (itE T t S tg iter).bind fun mi => (tgP T (S.blk sc) tg).bind fun p => (ifsE t (S.blk sc) ifs).bind fun mc => (t.ev (S.blk sc) kx).bind fun mk => (t.ev (S.blk sc) vx).bind fun mv =>
        if (slotsP p).all fun i => decide (i ∈ (ownOf T.N sc).map (·.2)) then some (mDc mi ((ownOf T.N sc).map (·.2)) p mc mk mv) else none
    else none
  | _ => none
noncomputable def altE (T : TC) (t : Tr) (S : SC) (e : Expr) : Option (M D) := match e with
  | .Name x p => if flag T 1 p then (nmE T S x).map mFrz else none
  | .Compare a [o] [b] p => if flag T 2 p && !behindInMarks o b then (t.ev S a).bind fun q => (t.ev S b).bind fun r => some (mAp2 (cmpSR o) q r) else none
  | .Call (.Name x _) [e] [] p => if flag T 3 p && decide (x = "list") && gloB (S.kind x) && decide (x ∈ T.no) && notStar e then (t.ev S e).map fun q => mApN listN (mCons q mNil)
    else if flag T 7 p && decide (x = "repr") && gloB (S.kind x) && decide (x ∈ T.no) && notStar e then (t.ev S e).map fun q => mApN reprRO (mCons q mNil) else none
  | .BinOp a .Add b p => if flag T 4 p then (t.ev S a).bind fun q => (t.ev S b).bind fun r => some (mAp2 catN q r) else none
  | .Subscript (.Name x q) b p => if flag T 6 p && plainIxB b then (t.ev S (.Name x q)).bind fun q => (t.ev S b).bind fun r => some (mDLk q r) else kdE T t S x b
  | .Subscript a b p => if flag T 6 p && plainIxB b then (t.ev S a).bind fun q => (t.ev S b).bind fun r => some (mDLk q r) else none
  | .DictComp kx vx gs sc _ => dcE T t S kx vx gs sc
  | .Dict (k :: ks) vs _ => if (k :: ks).length ≤ 15 then (dctE t S (k :: ks) vs).map mDct else none
  | _ => none
def altT (T : TC) (t : Tr) (S : SC) (e : Expr) : Option (M Bool) := match e with
  | .Compare a [o] [b] p => if flag T 2 p && !behindInMarks o b then (t.ev S a).bind fun q => (t.ev S b).bind fun r => some (mCmpTR o q r) else none
  | _ => none
noncomputable def tr (T : TC) : Nat → Tr
  | 0 => ⟨fun _ _ => none, fun _ _ => none⟩
  | n + 1 => ⟨fun S e => match altE T (tr T n) S e with
      | some m => some m
      | none => stepE T (tr T n) S e, fun S e => match altT T (tr T n) S e with
      | some m => some m
      | none => stepT T (tr T n) S e⟩

/-! ### statements -/
abbrev TrS := SC → List Stmt → Option SM
def isLc : Expr → Bool
  | .ListComp .. => true
  | .SetComp .. => true
  | .DictComp .. => true
  | _ => false
def isSub : Expr → Bool
  | .Subscript .. => true
  | _ => false
def funK (S : SC) : Bool := match S.sc.kind with
  | .function => true
  | _ => false
def nameOf : Expr → Option (Str × Pos)
  | .Name x p => some (x, p)
  | _ => none
def parE (T : TC) (t : Tr) (S : SC) (a b x y : Expr) : Option SM := match nameOf a, nameOf b with
  | some (n1, p1), some (n2, p2) =>
    if S.calm && funK S && (isLocal (S.kind n1) && isLocal (S.kind n2) && (p2.line == p1.line) && !decide (n1 = n2)) && (notStar x && notStar y) && !([x, y].all (foldedForSure 8)) && !([x, y].all (constantsAlone 8)) then
      (ixOf T.N n1).bind fun i => (ixOf T.N n2).bind fun j => (t.ev S x).bind fun p => (t.ev S y).bind fun q => if i = j then none else some (sAsg (.tp [.nm i, .nm j]) (mApN tupO (mCons p (mCons q mNil))))
    else none
  | _, _ => none
def lcOk (S : SC) (x : Str) : Expr → Bool
  | .ListComp _ _ sc _ => funK S
  | .SetComp .. => false
  | .DictComp .. => false
  | _ => true
/-- some target is no local name: the stores are not exchanged -/
def noSwap (S : SC) (es : List Expr) : Bool := es.any fun e => match nameOf e with
  | some z => !isLocal (S.kind z.1)
  | none => true
noncomputable def asgE (T : TC) (t : Tr) (S : SC) (tg e : Expr) : Option SM := match tg with
  | .Name x p => if locB (S.kind x) && (S.ok x || isLocal (S.kind x)) && lcOk S x e then (ixOf T.N x).bind fun i => if S.fre i = false then none else (match e with
    | .ListComp elt gs sc p => lcE T t S (flag T 5 p) elt gs sc
    | _ => t.ev S e).bind fun a => some (sAsg (.nm i) a) else none
  | .Tuple es _ _ => if isTupE e && !noSwap S es then (match es, e with
    | [a, b], .Tuple [x, y] _ _ => parE T t S a b x y
    | _, _ => none) else (tgP T S tg).bind fun p => (t.ev S e).bind fun a => some (sAsg p a)
  | .Subscript o i _ => if plainIxB i then (t.ev S o).bind fun p => (t.ev S i).bind fun q => (t.ev S e).bind fun a => some (sSetIx p q a) else none
  | _ => none
noncomputable def raiseE (T : TC) (t : Tr) (S : SC) (x : Str) (es : List Expr) : Option SM :=
  if oddN x then none else if S.calm && gloB (S.kind x) then (match T.gl.lookup x with
    | some (.cls k) => (match T.xc.lookup k with
      | some .plain => (match es with
        | [.Constant (.str _) _ _] => some (sThrow k)
        | _ => none)
      | some (.own fs) => (match es with
        | [] => none
        | e :: es => if (e :: es).length = fs.length then (evsL t S (e :: es)).map (sRaise k fs) else none)
      | none => none)
    | _ => none) else none
def SC.suN (S : SC) : SC := { S with calm := false, ex := none }
def SC.su (S : SC) (n : Str) (i k : Nat) (fs : List (Str × D)) : SC := { S with calm := false, ex := some (n, i, k, fs) }
noncomputable def suE (u : TrS) (S : SC) (b : List Stmt) : SM := (u S b).getD fun _ _ => .stuck
noncomputable def clsE (T : TC) (u : TrS) (S : SC) : List ExceptHandler → Option (List Cl)
  | [] => some []
  | .ExceptHandler (some (.Name x xp)) none (b0 :: su) _ :: r => (ckE T S (.Name x xp)).bind fun c => (clsE T u S r).bind fun l => some (⟨c, none, fun _ _ => suE u S.suN (b0 :: su)⟩ :: l)
  | .ExceptHandler (some (.Name x xp)) (some n) (b0 :: su) _ :: r => (ckE T S (.Name x xp)).bind fun c => (clsE T u S r).bind fun l =>
    if isLocal (S.kind n) && !oddN n then (ixOf T.N n).bind fun i => some (⟨c, some i, fun k fs => suE u (S.su n i k fs) (b0 :: su)⟩ :: l) else none
  | _ => none
noncomputable def tryE (T : TC) (u : TrS) (S : SC) (b : List Stmt) (hs : List ExceptHandler) : Option SM :=
  if S.calm && !hs.isEmpty then (u S b).bind fun mb => (clsE T u S hs).bind fun cl => some (sTry T.isa mb cl) else none
noncomputable def exOne (T : TC) (t : Tr) (u : TrS) (S : SC) (st : Stmt) : Option SM := match st with
  | .Expr e _ => if isLc e then none else (t.ev S e).map sDrop
  | .Return (some e) _ => (t.ev S e).map sRet
  | .Return none _ => some sRetN
  | .Pass _ => some sNx
  | .Break _ => some sBk
  | .Continue _ => some sCt
  | .If c a b _ => (t.evT S c).bind fun p => (u S a).bind fun q => (u S b).bind fun r => some (sIf p q r)
  | .Assign [tg] e _ => asgE T t S tg e
  | .Raise (some (.Call (.Name x _) es [] _)) none _ => raiseE T t S x es
  | .Try b hs [] [] _ => tryE T u S b hs
  | .While c body [] _ => (t.evT S c).bind fun p => (u S body).bind fun b => some (sWhile p b)
  | .For tg it body [] _ => if S.calm && notSet it then (itE T t S tg it).bind fun mi => (tgP T S tg).bind fun p => (u S body).bind fun b => some (sFor mi p b) else none
  | _ => none
noncomputable def exList (T : TC) (t : Tr) (u : TrS) (S : SC) : List Stmt → Option SM
  | [] => some sNx
  | [a] => exOne T t u S a
  | a :: b :: r => (exOne T t u S a).bind fun p => (exList T t u S (b :: r)).bind fun q => some (sSeq p q)
noncomputable def trS (T : TC) (t : Tr) : Nat → TrS
  | 0 => fun _ _ => none
  | n + 1 => exList T t (trS T t n)
end DI

set_option Elab.async false
set_option linter.all false
set_option maxRecDepth 100000
set_option maxHeartbeats 4000000
/-! DIL: the translator is right. -/
namespace DI
open PySem PySem.Spec L2
open PyProof.Rows hiding St

/-- a def of the text that may be called from here -/
structure FnAt (G : Gx) (X : Cx) (call : CallF) (k np : Nat) (dfl : List D) : Prop where
  ex : ∃ (f : Addr) (fd : FuncData) (ps : List Str) (lev : Nat), G.fa k = some f ∧ PySem.W.keepIn X.K (.ref f) = true ∧ Room lev X.A ∧ FnG X.prog X.w X.K X.mg X.base lev f fd ps (spG G call k np) ∧
    ∀ j, j ≤ dfl.length → ∃ (ds : List Value) (ws : List V), Binds X.K fd ps ds ∧ Vals ws ds ∧ ∀ t H, RDs G t H (dfl.drop j) ws
/-- what the translator takes for granted of the place -/
structure CxOk (G : Gx) (T : TC) (S : SC) (W : WX) (X : Cx) : Prop where
  hN : X.N = T.N
  nd : T.N.Nodup
  sc : X.env.scope = S.sc
  fn : ∀ x, S.ok x = true → X.fn x = true
  hK : G.K = X.K
  calm : S.calm = true → X.calm = true
  exn : S.calm = true → S.ex = none
  fre : ∀ i, S.fre i = true → G.fr i = true
  xin : ∀ n i k fs, S.ex = some (n, i, k, fs) → XIn G X n i k fs
  rm : S.calm = true → Room 2 X.A
  xcs : ∀ k c, T.xc.lookup k = some c → XcOk X.prog X.w X.K X.mg X.base G.ca k c
  isa : IsaOk X.K G.ca T.isa
  un : X.A.units + 100 < cLine
  gd : X.A.guards = some []
  gl : ∀ x d, T.gl.lookup x = some d → ∃ (v : V) (u : Value), X.mg x = some u ∧ RelV v u ∧ ∀ t H, RD G t H d v
  no : ∀ x, x ∈ T.no → X.mg x = none
  fns : S.calm = true → ∀ k np dfl, T.sg.lookup k = some (np, dfl) → FnAt G X T.call k np dfl
  tk : Takes X W
  kd : ∀ x kvs, T.kd.lookup x = some kvs → ∃ p, X.mg x = some (.ref p) ∧ ∀ z d, kvs.lookup z = some d → ∃ v, KDct X.K X.w p z v ∧ ∀ t H, RD G t H d v
theorem CxOk.fra {G : Gx} {T : TC} {S : SC} {W : WX} {X : Cx} (c : CxOk G T S W X) (h : S.calm = true) (i : Nat) : G.fr i = true := c.fre i (by unfold SC.fre; rw [c.exn h])
theorem CxOk.blk {G : Gx} {T : TC} {S : SC} {W : WX} {X : Cx} (c : CxOk G T S W X) (hcm : S.calm = true) (s : Shared) (H : Hp) (scope : Scope) (C : Addr) (cl : List (Str × Addr)) (fp : List Addr) : CxOk G T (S.blk scope) W0 (X.blk s H scope (compEnvC scope cl C X.env) fp) := by
  refine ⟨c.hN, c.nd, ?_, fun x h => ?_, c.hK, c.calm, fun _ => rfl, fun i _ => c.fra hcm i, (fun n i k fs h => nomatch h), c.rm, c.xcs, c.isa, c.un, c.gd, c.gl, c.no, fun _ k np dfl h => ?_, fun u s' h => ?_, c.kd⟩
  · show relS scope X.env.scope = relS scope S.sc
    rw [c.sc]
  · show (scope.names.lookup x == some .cell) = true
    have h' : (match scope.names.lookup x with
      | some .cell => true
      | _ => false) = true := h
    split at h'
    · rename_i e; rw [e]; rfl
    · cases h'
  · obtain ⟨f, fd, ps, lev, h1, h2, h3, h4, h5⟩ := (c.fns hcm k np dfl h).ex
    exact ⟨f, fd, ps, lev, h1, h2, h3, h4, h5⟩
  · obtain ⟨_, _, _, _, _, _, _, _, _, _, _, _, _, _, _, _, w⟩ := h
    exact w.elim

structure TrOk (T : TC) (t : Tr) : Prop where
  ev : ∀ G S e m, t.ev S e = some m → ∀ W X, CxOk G T S W X → PE X e (RdE G W m)
  evT : ∀ G S e m, t.evT S e = some m → ∀ W X, CxOk G T S W X → PT X e (RdT G W m)

section
variable {G : Gx} {T : TC} {S : SC} {W : WX} {X : Cx} {t : Tr}
theorem kind_vis {x : Str} (c : CxOk G T S W X) (h : visB (S.kind x) = true) : Vis X.env.scope x := by
  unfold Vis; rw [c.sc]
  unfold SC.kind at h
  revert h
  cases S.sc.names.lookup x with
  | none => intro h; cases h
  | some k => cases k <;> intro h <;> first | exact .inl rfl | exact .inr (.inl rfl) | exact .inr (.inr rfl) | cases h
theorem kind_loc {x : Str} (c : CxOk G T S W X) (h : locB (S.kind x) = true) : L2.Loc X.env.scope x := by
  unfold L2.Loc; rw [c.sc]
  unfold SC.kind at h
  revert h
  cases S.sc.names.lookup x with
  | none => intro h; cases h
  | some k => cases k <;> intro h <;> first | exact .inl rfl | exact .inr rfl | cases h
theorem kind_ok {x : Str} (c : CxOk G T S W X) (h : (S.ok x || isLocal (S.kind x)) = true) : X.fn x = true ∨ X.env.scope.names.lookup x = some .local := by
  rcases Bool.or_eq_true _ _ ▸ h with h | h
  · exact .inl (c.fn x h)
  · rw [c.sc]
    unfold SC.kind isLocal at h
    revert h
    cases S.sc.names.lookup x with
    | none => intro h; cases h
    | some k => cases k <;> intro h <;> first | exact .inr rfl | cases h
theorem kind_gl {x : Str} (c : CxOk G T S W X) (h : gloB (S.kind x) = true) : Gl X x := by
  show X.env.scope.names.lookup x = _
  rw [c.sc]
  unfold SC.kind gloB at h
  revert h
  cases S.sc.names.lookup x with
  | none => intro h; cases h
  | some k => cases k <;> intro h <;> first | rfl | cases h
theorem star_cons {e : Expr} {es : List Expr} {env : PySem.Env} (h : notStar e = true) : starEach (e :: es) env = (false, eval e env) :: starEach es env := by
  cases e <;> first | rfl | cases h
theorem asg_cons {e : Expr} {es : List Expr} {env : PySem.Env} (h : notStar e = true) : assignEach (e :: es) env = (false, assign e env) :: assignEach es env := by
  cases e <;> first | rfl | cases h
theorem star_none {env : PySem.Env} {cp : Pos} : ∀ {es : List Expr}, es.all notStar = true → (backTo cp (starEach es env)).any (·.1) = false
  | [], _ => rfl
  | e :: es, h => by
    rw [List.all_cons, Bool.and_eq_true] at h
    rw [star_cons h.1]
    show (false || (backTo cp (starEach es env)).any (·.1)) = false
    rw [star_none h.2]; rfl
theorem evsL_star : ∀ {es : List Expr} {m : M (List D)}, evsL t S es = some m → es.all notStar = true
  | [], _, _ => rfl
  | e :: es, m, h => by
    unfold evsL at h
    split at h
    · rename_i c
      simp only [Option.bind_eq_some_iff] at h
      obtain ⟨p, _, q, hq, _⟩ := h
      rw [List.all_cons, c, evsL_star hq]; rfl
    · cases h
theorem evsL_ok (tk : TrOk T t) (c : CxOk G T S W X) : ∀ {es : List Expr} {m : M (List D)}, evsL t S es = some m → PA X es (RdA G W m)
  | [], m, h => by cases h; exact di_nil
  | e :: es, m, h => by
    unfold evsL at h
    split at h
    · rename_i hs
      simp only [Option.bind_eq_some_iff] at h
      obtain ⟨p, hp, q, hq, hm⟩ := h
      cases hm
      exact di_cons (tk.ev _ _ _ _ hp _ _ c) (evsL_ok tk c hq) (star_cons hs)
    · cases h
theorem evsL_len : ∀ {es : List Expr} {m : M (List D)}, evsL t S es = some m → ∀ r μ xs m1, m r μ = .ok xs m1 → xs.length = es.length
  | [], m, h, r, μ, xs, m1, e => by cases h; cases e; rfl
  | a :: es, m, h, r, μ, xs, m1, e => by
    unfold evsL at h
    split at h
    · simp only [Option.bind_eq_some_iff] at h
      obtain ⟨p, hp, q, hq, hm⟩ := h
      cases hm
      unfold mCons at e
      cases e1 : p r μ with
      | stuck => rw [e1] at e; cases e
      | exc _ _ _ => rw [e1] at e; cases e
      | ok x m2 =>
        rw [e1] at e
        simp only [R.bind] at e
        cases e2 : q r m2 with
        | stuck => rw [e2] at e; cases e
        | exc _ _ _ => rw [e2] at e; cases e
        | ok ys m3 =>
          rw [e2] at e
          simp only [R.bind] at e
          cases e
          rw [List.length_cons, List.length_cons, evsL_len hq _ _ _ _ e2]
    · cases h
theorem boolE_ok (tk : TrOk T t) (c : CxOk G T S W X) {op : BoolOp} {pos : Pos} : ∀ {es : List Expr} {m : M D}, boolE t S op es = some m → PE X (.BoolOp op es pos) (RdE G W m)
  | [], _, h => by cases h
  | [a], m, h => di_one (tk.ev _ _ _ _ h _ _ c)
  | a :: b :: r, m, h => by
    unfold boolE at h
    simp only [Option.bind_eq_some_iff] at h
    obtain ⟨p, hp, q, hq, hm⟩ := h
    cases op with
    | And => cases hm; exact di_andV c.hK (tk.ev _ _ _ _ hp _ _ c) (boolE_ok tk c hq)
    | Or => cases hm; exact di_orV c.hK (tk.ev _ _ _ _ hp _ _ c) (boolE_ok tk c hq)
theorem boolT_ok (tk : TrOk T t) (c : CxOk G T S W X) {op : BoolOp} {pos : Pos} : ∀ {es : List Expr} {m : M Bool}, boolT t S op es = some m → PW X (.BoolOp op es pos) (RdT G W m)
  | [], _, h => by cases h
  | [a], m, h => by
    cases op with
    | And => exact di_and1 (tk.evT _ _ _ _ h _ _ c)
    | Or => exact di_or1 (tk.evT _ _ _ _ h _ _ c)
  | a :: b :: r, m, h => by
    unfold boolT at h
    simp only [Option.bind_eq_some_iff] at h
    obtain ⟨p, hp, q, hq, hm⟩ := h
    cases op with
    | And => cases hm; exact di_andT (tk.evT _ _ _ _ hp _ _ c) (boolT_ok tk c hq)
    | Or => cases hm; exact di_orT (tk.evT _ _ _ _ hp _ _ c) (boolT_ok tk c hq)
theorem CxOk.u64 (c : CxOk G T S W X) : X.A.units + 64 < cLine := by have := c.un; omega
theorem cmpE_ok (tk : TrOk T t) (c : CxOk G T S W X) {a : Expr} {ops : List CmpOp} {bs : List Expr} {pos : Pos} {m : M D} (h : cmpE t S a ops bs = some m) : PE X (.Compare a ops bs pos) (RdE G W m) := by
  unfold cmpE at h
  split at h
  · split at h
    · cases h
    · rename_i hm
      simp only [Option.bind_eq_some_iff] at h
      obtain ⟨p, hp, q, hq, e⟩ := h
      cases e
      exact di_cmp c.hK c.u64 (tk.ev _ _ _ _ hp _ _ c) (tk.ev _ _ _ _ hq _ _ c) (by simpa using hm)
  · split at h
    · cases h
    · rename_i hm
      simp only [Option.bind_eq_some_iff] at h
      obtain ⟨p, hp, q, hq, r, hr, e⟩ := h
      cases e
      exact di_chain c.hK c.u64 (tk.ev _ _ _ _ hp _ _ c) (tk.ev _ _ _ _ hq _ _ c) (tk.ev _ _ _ _ hr _ _ c) (by simpa using hm)
  · cases h
theorem cmpT_ok (tk : TrOk T t) (c : CxOk G T S W X) {a : Expr} {ops : List CmpOp} {bs : List Expr} {pos : Pos} {m : M Bool} (h : cmpTst t S a ops bs = some m) : PT X (.Compare a ops bs pos) (RdT G W m) := by
  unfold cmpTst at h
  split at h
  · split at h
    · cases h
    · rename_i hm
      simp only [Option.bind_eq_some_iff] at h
      obtain ⟨p, hp, q, hq, e⟩ := h
      cases e
      exact di_cmpT c.hK c.u64 (tk.ev _ _ _ _ hp _ _ c) (tk.ev _ _ _ _ hq _ _ c) (by simpa using hm)
  · split at h
    · cases h
    · rename_i hm
      simp only [Option.bind_eq_some_iff] at h
      obtain ⟨p, hp, q, hq, r, hr, e⟩ := h
      cases e
      exact di_chainT c.hK c.u64 (tk.ev _ _ _ _ hp _ _ c) (tk.ev _ _ _ _ hq _ _ c) (tk.ev _ _ _ _ hr _ _ c) (by simpa using hm)
  · cases h
theorem part_ok (tk : TrOk T t) (c : CxOk G T S W X) {o : Option Expr} {m : M (Option Int)} (h : partE t S o = some m) : PO X o (Rd G W (fun _ _ (o p : Option Int) => p = o) m) := by
  unfold partE at h
  split at h
  · cases h; exact di_nop
  · obtain ⟨p, hp, e⟩ := Option.map_eq_some_iff.mp h
    subst e
    exact di_part (tk.ev _ _ _ _ hp _ _ c)
theorem plain_ok {b : Expr} (h : plainIxB b = true) : PlainIx b := by
  intro o i
  cases b <;> first | rfl | cases h
theorem sub_ok (tk : TrOk T t) (c : CxOk G T S W X) {a b : Expr} {pos : Pos} {m : M D} (h : subE t S a b = some m) : PE X (.Subscript a b pos) (RdE G W m) := by
  unfold subE at h
  split at h
  · simp only [Option.bind_eq_some_iff] at h
    obtain ⟨p, hp, q, hq, r, hr, e⟩ := h
    cases e
    exact di_sl c.hK (tk.ev _ _ _ _ hp _ _ c) (part_ok tk c hq) (part_ok tk c hr)
  · split at h
    · rename_i hb
      simp only [Option.bind_eq_some_iff] at h
      obtain ⟨p, hp, q, hq, e⟩ := h
      cases e
      exact di_ix c.hK (tk.ev _ _ _ _ hp _ _ c) (tk.ev _ _ _ _ hq _ _ c) (plain_ok hb)
    · cases h
theorem const_ok {k : Const} {j : Nat} {pos : Pos} {m : M D} (h : constE k = some m) : PE X (.Constant k j pos) (RdE G W m) := by
  unfold constE at h
  split at h <;> first
    | (cases h; exact di_c pe_non fun _ _ => .non)
    | (cases h; exact di_c pe_bl fun _ _ => .bl _)
    | (cases h; exact di_c pe_int fun _ _ => .int _)
    | (cases h; exact di_c pe_str fun _ _ => .str _)
    | cases h
theorem tyN_ok {x : Str} {n : String} (h : tyN x = some n) : bootBuiltins x = some (.type n) := by
  unfold tyN at h
  by_cases e : x = "int"
  · rw [if_pos e] at h; cases h; rw [e]; rfl
  rw [if_neg e] at h
  by_cases e : x = "str"
  · rw [if_pos e] at h; cases h; rw [e]; rfl
  rw [if_neg e] at h
  by_cases e : x = "bool"
  · rw [if_pos e] at h; cases h; rw [e]; rfl
  rw [if_neg e] at h
  by_cases e : x = "tuple"
  · rw [if_pos e] at h; cases h; rw [e]; rfl
  rw [if_neg e] at h
  by_cases e : x = "list"
  · rw [if_pos e] at h; cases h; rw [e]; rfl
  rw [if_neg e] at h
  by_cases e : x = "dict"
  · rw [if_pos e] at h; cases h; rw [e]; rfl
  rw [if_neg e] at h
  cases h
theorem nm_ok (c : CxOk G T S W X) {x : Str} {pos : Pos} {m : M D} (h : nmE T S x = some m) : PE X (.Name x pos) (RdE G W m) := by
  unfold nmE at h
  split at h
  · cases h
  · rename_i ho
    obtain ⟨o1, o2, o3⟩ := oddN_ok (by simpa using ho)
    split at h
    · rename_i hv
      obtain ⟨i, hi, e⟩ := Option.map_eq_some_iff.mp h
      subst e
      exact di_var (by rw [c.hN]; exact ixOf_ok hi) (kind_vis c hv) o1 o2
    · split at h
      · rename_i hg
        split at h
        · rename_i d hd
          cases h
          obtain ⟨v, u, hm, rv, rd⟩ := c.gl _ _ hd
          exact di_c (pe_glob (kind_gl c hg) hm rv o1) rd
        · split at h
          · rename_i hn
            obtain ⟨n, hy, e⟩ := Option.map_eq_some_iff.mp h
            subst e
            exact di_c (pe_bltn (v := .ty n) (kind_gl c hg) (c.no _ hn) (tyN_ok hy) rfl o3 o1) fun _ _ => .ty _
          · cases h
      · cases h
theorem blt_ok (c : CxOk G T S W X) {x : Str} {b : BL} (hcm : (S.calm || !needCalm x) = true) (h : bltO x = some b) : (b.fn = true ∧ bootBuiltins x = some (.builtin b.id) ∧ CallR X (.builtin b.id) (rON G b.f)) ∨ (b.fn = false ∧ bootBuiltins x = some (.type b.id) ∧ CallR X (.type b.id) (rON G b.f)) := by
  unfold bltO at h
  by_cases e : x = "len"
  · rw [if_pos e] at h; cases h; rw [e]; exact .inl ⟨rfl, rfl, call_len_di c.hK⟩
  rw [if_neg e] at h
  by_cases e : x = "isinstance"
  · rw [if_pos e] at h; cases h; rw [e]; exact .inl ⟨rfl, rfl, call_isi_di c.hK⟩
  rw [if_neg e] at h
  by_cases e : x = "repr"
  · rw [if_pos e] at h; cases h; rw [e]; exact .inl ⟨rfl, rfl, call_repr_di c.hK c.gd c.un⟩
  rw [if_neg e] at h
  by_cases e : x = "tuple"
  · rw [if_pos e] at h; cases h; rw [e]; exact .inr ⟨rfl, rfl, call_tuple_di c.hK⟩
  rw [if_neg e] at h
  by_cases e : x = "list"
  · rw [if_pos e] at h; cases h; rw [e]; exact .inr ⟨rfl, rfl, call_list_di c.hK⟩
  rw [if_neg e] at h
  by_cases e : x = "str"
  · rw [if_pos e] at h; cases h; rw [e]; exact .inr ⟨rfl, rfl, call_str_di⟩
  rw [if_neg e] at h
  by_cases e : x = "int"
  · rw [if_pos e] at h; cases h; rw [e]; exact .inr ⟨rfl, rfl, call_int_di⟩
  rw [if_neg e] at h
  by_cases e : x = "any"
  · have hc : S.calm = true := by
      have : needCalm x = true := by rw [e]; rfl
      simpa [this] using hcm
    rw [if_pos e] at h; cases h; rw [e]; exact .inl ⟨rfl, rfl, call_any_di (c.calm hc)⟩
  rw [if_neg e] at h
  by_cases e : x = "all"
  · have hc : S.calm = true := by
      have : needCalm x = true := by rw [e]; rfl
      simpa [this] using hcm
    rw [if_pos e] at h; cases h; rw [e]; exact .inl ⟨rfl, rfl, call_all_di (c.calm hc)⟩
  rw [if_neg e] at h
  by_cases e : x = "sum"
  · have hc : S.calm = true := by
      have : needCalm x = true := by rw [e]; rfl
      simpa [this] using hcm
    rw [if_pos e] at h; cases h; rw [e]; exact .inl ⟨rfl, rfl, call_sum_di c.hK (c.calm hc)⟩
  rw [if_neg e] at h
  by_cases e : x = "abs"
  · rw [if_pos e] at h; cases h; rw [e]; exact .inl ⟨rfl, rfl, call_abs_di⟩
  rw [if_neg e] at h
  by_cases e : x = "max"
  · have hc : S.calm = true := by
      have : needCalm x = true := by rw [e]; rfl
      simpa [this] using hcm
    rw [if_pos e] at h; cases h; rw [e]; exact .inl ⟨rfl, rfl, call_max_di (c.calm hc)⟩
  rw [if_neg e] at h
  by_cases e : x = "min"
  · have hc : S.calm = true := by
      have : needCalm x = true := by rw [e]; rfl
      simpa [this] using hcm
    rw [if_pos e] at h; cases h; rw [e]; exact .inl ⟨rfl, rfl, call_min_di (c.calm hc)⟩
  rw [if_neg e] at h
  cases h
theorem callN0_ok (tk : TrOk T t) (c : CxOk G T S W X) {x : Str} {es : List Expr} {p pos : Pos} {m : M D} (h : callN0 T t S x es = some m) : PE X (.Call (.Name x p) es [] pos) (RdE G W m) := by
  unfold callN0 at h
  split at h
  · cases h
  rename_i ho
  obtain ⟨o1, o2, o3⟩ := oddN_ok (by simpa using ho)
  split at h
  rotate_left
  · split at h
    · rename_i hv
      rw [Bool.and_eq_true] at hv
      split at h
      · cases h
      · rename_i e es
        obtain ⟨i, hi, h⟩ := Option.bind_eq_some_iff.mp h
        obtain ⟨q, hq, z⟩ := Option.map_eq_some_iff.mp h
        subst z
        have hst := evsL_star hq
        rw [List.all_cons, Bool.and_eq_true] at hst
        refine di_callV (n := (e :: es).length) (fun k hk => ?_) c.gd (by rw [c.hN]; exact ixOf_ok hi) (kind_vis c hv.1) c.tk (evsL_ok tk c hq) (fun r μ xs m1 z => evsL_len hq _ _ _ _ z) o1 o2 (star_cons hst.1) (star_none hst.2)
        unfold okA okL at hk
        split at hk
        · rename_i np hs0
          rw [decide_eq_true_eq] at hk
          obtain ⟨dfl, hs⟩ := lookup_map1 hs0
          obtain ⟨f, fd, ps, lev, h1, h2, h3, h4, h5⟩ := (c.fns hv.2 _ _ _ hs).ex
          obtain ⟨ds, ws, hb, hd, hw⟩ := h5 dfl.length (Nat.le_refl _)
          have z := hw [] (fun _ => none)
          rw [List.drop_length] at z
          cases z
          rw [← hk]
          exact ⟨f, fd, ps, lev, ds, h1, h2, h3, h4, hb, hd⟩
        · cases hk
    · cases h
  rename_i hg
  split at h
  · rename_i k hk
    split at h
    rotate_left
    · cases h
    rename_i hcm
    split at h
    rotate_left
    · cases h
    rename_i np dfl hs
    split at h
    rotate_left
    · cases h
    rename_i hl
    obtain ⟨q, hq, e⟩ := Option.map_eq_some_iff.mp h
    subst e
    obtain ⟨v, u, hm, rv, rd⟩ := c.gl _ _ hk
    obtain ⟨f, fd, ps, lev, h1, h2, h3, h4, h5⟩ := (c.fns hcm _ _ _ hs).ex
    obtain ⟨ds, ws, hb, hd, hw⟩ := h5 (es.length + dfl.length - np) (by omega)
    have hv : v = .ref f := by
      have z := rd [] (fun _ => none)
      cases z with
      | fn z => rw [h1] at z; cases z; rfl
    subst hv
    obtain rfl : u = Value.ref f := rv
    have ha := evsL_ok tk c hq
    have hln := evsL_len hq
    have hst := evsL_star hq
    have hdl : (dfl.drop (es.length + dfl.length - np)).length = np - es.length := by rw [List.length_drop]; omega
    cases es with
    | nil =>
      cases hq
      exact di_call0 h4 h3 c.gd (kind_gl c hg) hm h2 hb hd c.tk hw (by rw [hdl, List.length_nil]; omega) o1
    | cons e es =>
      rw [List.all_cons, Bool.and_eq_true] at hst
      exact di_call h4 h3 c.gd (kind_gl c hg) hm h2 hb hd c.tk hw ha (fun r μ xs m1 z => by rw [hln _ _ _ _ z, hdl]; omega) o1 (star_cons hst.1) (star_none hst.2)
  · cases h
  · split at h
    rotate_left
    · cases h
    rename_i hn
    split at h
    · cases h
    · rename_i e es
      obtain ⟨b, hb, h⟩ := Option.bind_eq_some_iff.mp h
      obtain ⟨q, hq, e2⟩ := Option.map_eq_some_iff.mp h
      subst e2
      have ha := evsL_ok tk c hq
      have hst := evsL_star hq
      rw [List.all_cons, Bool.and_eq_true] at hst
      rcases blt_ok c hn.2 hb with ⟨_, z1, z2⟩ | ⟨_, z1, z2⟩
      · exact di_callB z2 (kind_gl c hg) (c.no _ hn.1) z1 ha o3 o1 (star_cons hst.1) (star_none hst.2)
      · exact di_callTy z2 (kind_gl c hg) (c.no _ hn.1) z1 ha o3 o1 (star_cons hst.1) (star_none hst.2)
theorem xtyN_ok {x : Str} {n : String} (h : xtyN x = some n) : bootBuiltins x = some (.type n) := by
  unfold xtyN at h
  by_cases e : x = "ValueError"
  · rw [if_pos e] at h; cases h; rw [e]; rfl
  rw [if_neg e] at h
  by_cases e : x = "KeyError"
  · rw [if_pos e] at h; cases h; rw [e]; rfl
  rw [if_neg e] at h
  by_cases e : x = "IndexError"
  · rw [if_pos e] at h; cases h; rw [e]; rfl
  rw [if_neg e] at h
  by_cases e : x = "ZeroDivisionError"
  · rw [if_pos e] at h; cases h; rw [e]; rfl
  rw [if_neg e] at h
  by_cases e : x = "OverflowError"
  · rw [if_pos e] at h; cases h; rw [e]; rfl
  rw [if_neg e] at h
  by_cases e : x = "RuntimeError"
  · rw [if_pos e] at h; cases h; rw [e]; rfl
  rw [if_neg e] at h
  by_cases e : x = "LookupError"
  · rw [if_pos e] at h; cases h; rw [e]; rfl
  rw [if_neg e] at h
  by_cases e : x = "ArithmeticError"
  · rw [if_pos e] at h; cases h; rw [e]; rfl
  rw [if_neg e] at h
  by_cases e : x = "TypeError"
  · rw [if_pos e] at h; cases h; rw [e]; rfl
  rw [if_neg e] at h
  by_cases e : x = "Exception"
  · rw [if_pos e] at h; cases h; rw [e]; rfl
  rw [if_neg e] at h
  cases h
theorem ckE_ok (c : CxOk G T S W X) {e : Expr} {k : CK} (h : ckE T S e = some k) : ∃ x p, e = .Name x p ∧ CkAt X G.ca x k := by
  unfold ckE at h
  split at h
  · rename_i x p
    split at h
    · cases h
    rename_i ho
    obtain ⟨o1, o2, o3⟩ := oddN_ok (by simpa using ho)
    split at h
    rotate_left
    · cases h
    rename_i hg
    refine ⟨x, p, rfl, kind_gl c hg, o1, o3, ?_⟩
    split at h
    · rename_i j hj
      cases h
      obtain ⟨v, u, hm, rv, rd⟩ := c.gl _ _ hj
      have z := rd [] (fun _ => none)
      cases z with
      | cls z =>
        obtain rfl : u = Value.ref _ := rv
        exact ⟨_, z, hm⟩
    · cases h
    · split at h
      · rename_i hn
        obtain ⟨n, hy, e⟩ := Option.map_eq_some_iff.mp h
        subst e
        exact ⟨c.no _ hn, xtyN_ok hy⟩
      · cases h
  · cases h
theorem cksE_ok (c : CxOk G T S W X) : ∀ {es : List Expr} {l : List CK}, cksE T S es = some l → CksAt X G.ca es l
  | [], l, h => by cases h; exact .nil
  | e :: es, l, h => by
    unfold cksE at h
    simp only [Option.bind_eq_some_iff] at h
    obtain ⟨k, hk, l', hl, z⟩ := h
    cases z
    obtain ⟨x, p, rfl, hc⟩ := ckE_ok c hk
    exact .cons hc (cksE_ok c hl)
theorem isE_ok (c : CxOk G T S W X) {x : Str} {es : List Expr} {p pos : Pos} {m : M D} (h : isE T S x es = some m) : PE X (.Call (.Name x p) es [] pos) (RdE G W m) := by
  unfold isE at h
  split at h
  · rename_i n i k fs n' pn ce hex
    split at h
    · rename_i hc
      obtain ⟨rfl, rfl, hg, hno⟩ := hc
      have xi := c.xin _ _ _ _ hex
      split at h
      · rename_i cs kt pt
        split at h
        · rename_i h100
          obtain ⟨l, hl, h⟩ := Option.bind_eq_some_iff.mp h
          split at h
          · cases h
          · rename_i hne
            cases h
            exact di_isXT xi c.isa (kind_gl c hg) (c.no _ hno) (by simpa using hne) h100 (cksE_ok c hl)
        · cases h
      · obtain ⟨k1, hk, e⟩ := Option.map_eq_some_iff.mp h
        subst e
        obtain ⟨y, q, e1, hc⟩ := ckE_ok c hk
        cases e1
        exact di_isX1 xi c.isa (kind_gl c hg) (c.no _ hno) hc
      · cases h
    · cases h
  · cases h
theorem fldE_ok (c : CxOk G T S W X) {o : Expr} {f : Str} {pos : Pos} {m : M D} (h : fldE T S o f = some m) : PE X (.Attribute o f pos) (RdE G W m) := by
  unfold fldE at h
  split at h
  · split at h
    · rename_i n i k fs hex
      split at h
      · rename_i e
        subst e
        cases h
        refine di_fld (c.xin _ _ _ _ hex) fun hf C hC => ?_
        unfold fokOf at hf
        split at hf
        · rename_i ff hx
          obtain ⟨C', fI, b, fd, ps, hC', _, _, _, nf, _, _, _, hE⟩ := c.xcs _ _ hx
          rw [hC] at hC'; cases hC'
          exact ⟨hE, nf _ (of_decide_eq_true hf)⟩
        · cases hf
      · cases h
    · cases h
  · cases h
theorem callN_ok (tk : TrOk T t) (c : CxOk G T S W X) {x : Str} {es : List Expr} {p pos : Pos} {m : M D} (h : callN T t S x es = some m) : PE X (.Call (.Name x p) es [] pos) (RdE G W m) := by
  unfold callN at h
  split at h
  · rename_i m' h1; cases h; exact isE_ok c h1
  · exact callN0_ok tk c h
theorem base_ok {o : Expr} {a : Str} {env : PySem.Env} {w : Sem Value} (h : plainBase o = true) : attributeBase o a env w = w := by
  cases o <;> first | rfl | cases h
theorem mt_ok (c : CxOk G T S W X) {a : Str} {n : Nat} {z : (D → Sto → Bool) × MO} (h : mtO a n = some z) : ∃ T' id, MtOk G X T' a id z.1 z.2 := by
  unfold mtO at h
  by_cases e : a = "partition" ∧ n = 1
  · rw [if_pos e] at h; cases h; rw [e.1]; exact ⟨_, _, partition_mt c.hK⟩
  rw [if_neg e] at h
  by_cases e : a = "split" ∧ n = 1
  · rw [if_pos e] at h; cases h; rw [e.1]; exact ⟨_, _, split_mt c.hK⟩
  rw [if_neg e] at h
  by_cases e : a = "startswith" ∧ n = 1
  · rw [if_pos e] at h; cases h; rw [e.1]; exact ⟨_, _, starts_mt c.hK⟩
  rw [if_neg e] at h
  by_cases e : a = "endswith" ∧ n = 1
  · rw [if_pos e] at h; cases h; rw [e.1]; exact ⟨_, _, ends_mt c.hK⟩
  rw [if_neg e] at h
  by_cases e : a = "join" ∧ n = 1
  · rw [if_pos e] at h; cases h; rw [e.1]; exact ⟨_, _, join_mt c.hK⟩
  rw [if_neg e] at h
  by_cases e : a = "clear" ∧ n = 0
  · rw [if_pos e] at h; cases h; rw [e.1]; exact ⟨_, _, clear_mt⟩
  rw [if_neg e] at h
  by_cases e : a = "index" ∧ n = 1
  · rw [if_pos e] at h; cases h; rw [e.1]; exact ⟨_, _, index_mt c.hK⟩
  rw [if_neg e] at h
  cases h
theorem mt_len {a : Str} {n : Nat} {z : (D → Sto → Bool) × MO} (h : mtO a n = some z) : n ≤ 2 := by
  unfold mtO at h
  repeat' split at h
  all_goals first | omega | cases h
theorem all_stars {env : PySem.Env} {cp : Pos} {es : List Expr} (h : es.all notStar = true) : (backTo cp (starEach es env)).all (fun x => !x.1) = true := by
  have z := star_none (env := env) (cp := cp) h
  rw [List.all_eq_true]
  intro x hx
  rw [List.any_eq_false] at z
  simpa using z x hx
theorem jsL_ok (tk : TrOk T t) (c : CxOk G T S W X) : ∀ {es : List Expr} {l : List (M D)}, jsL t S es = some l → PJs X G W es l
  | [], l, h => by cases h; exact .nil
  | e :: es, l, h => by
    unfold jsL at h
    simp only [Option.bind_eq_some_iff] at h
    obtain ⟨p, hp, q, hq, z⟩ := h
    cases z
    exact .cons (tk.ev _ _ _ _ hp _ _ c) (jsL_ok tk c hq)
theorem js_ok (tk : TrOk T t) (c : CxOk G T S W X) {es : List Expr} {pos : Pos} {m : M D} (h : jsE t S es = some m) : PE X (.JoinedStr es pos) (RdE G W m) := by
  unfold jsE at h
  split at h
  · cases h
  · exact di_js1 (tk.ev _ _ _ _ h _ _ c)
  · rename_i h0 h1
    obtain ⟨l, hl, e⟩ := Option.map_eq_some_iff.mp h
    subst e
    have q := jsL_ok tk c hl
    match es, h0, h1, q with
    | a :: b :: r, _, _, q => exact di_js q
    | [a], _, h1, _ => exact absurd rfl (h1 a)
    | [], h0, _, _ => exact absurd rfl h0
theorem call_ok (tk : TrOk T t) (c : CxOk G T S W X) {f : Expr} {es : List Expr} {ks : List Keyword} {pos : Pos} {m : M D} (h : callE T t S f es ks pos = some m) : PE X (.Call f es ks pos) (RdE G W m) := by
  unfold callE at h
  split at h
  · exact callN_ok tk c h
  · split at h
    · rename_i e; subst e
      split at h
      · split at h
        · rename_i hc
          simp only [Bool.and_eq_true] at hc
          simp only [Option.bind_eq_some_iff] at h
          obtain ⟨p, hp, q, hq, e⟩ := h
          cases e
          have hs := star_cons (es := []) (env := X.env) hc.1.2
          exact di_app (tk.ev _ _ _ _ hp _ _ c) (di_cons (tk.ev _ _ _ _ hq _ _ c) di_nil hs) (base_ok hc.1.1) (by rw [hs]; rfl) hc.2 hs rfl
        · cases h
      · cases h
    · obtain ⟨z, hz, h⟩ := Option.bind_eq_some_iff.mp h
      split at h
      · rename_i hc
        rw [Bool.and_eq_true] at hc
        simp only [Option.bind_eq_some_iff] at h
        obtain ⟨p, hp, h⟩ := h
        obtain ⟨q, hq, e⟩ := Option.map_eq_some_iff.mp h
        subst e
        obtain ⟨T', id, MM⟩ := mt_ok c hz
        have hst := evsL_star hq
        have hln := mt_len hz
        cases es with
        | nil => cases hq; exact di_mt0 MM (tk.ev _ _ _ _ hp _ _ c) (base_ok hc.1) hc.2
        | cons e1 es1 =>
          have hst2 := hst
          rw [List.all_cons, Bool.and_eq_true] at hst
          exact di_mt MM (tk.ev _ _ _ _ hp _ _ c) (evsL_ok tk c hq) (base_ok hc.1) (by rw [all_stars hst2]; show (true && true && decide _) = true; simp only [Bool.and_self, Bool.true_and, decide_eq_true_eq]; show (e1 :: es1).length + 0 + 0 < 30; omega) hc.2 (star_cons hst.1) (star_none hst.2)
      · cases h
  · cases h
mutual
theorem tgP_ok (c : CxOk G T S W X) : ∀ {e : Expr} {p : P}, tgP T S e = some p → PG X e (RdG G p) := fun {e p} h => by
  match e, h with
  | .Name x _, h =>
    unfold tgP at h
    split at h
    · rename_i hc
      rw [Bool.and_eq_true] at hc
      obtain ⟨i, hi, h⟩ := Option.bind_eq_some_iff.mp h
      split at h
      · rename_i hfr
        cases h
        exact di_gn (by rw [c.hN]; exact c.nd) (by rw [c.hN]; exact ixOf_ok hi) (kind_loc c hc.1) (kind_ok c hc.2) (c.fre _ hfr)
      · cases h
    · cases h
  | .Tuple es _ _, h =>
    unfold tgP at h
    split at h
    rotate_left
    · cases h
    rename_i hcm
    split at h
    · rename_i ps hps
      cases h
      obtain ⟨h1, h2, h3⟩ := tgPs_ok c hps
      exact di_gtup c.hK (c.calm hcm) h1 h2 h3
    · split at h
      · rename_i z hz
        cases h
        obtain ⟨h1, h2, h3⟩ := tgS_ok c hz
        exact di_gstar c.hK (c.calm hcm) h1 h2 h3
      · obtain ⟨z, hz, e⟩ := Option.map_eq_some_iff.mp h
        subst e
        obtain ⟨h1, h2, h3⟩ := tgF_ok c hz
        exact di_gfirst c.hK (c.calm hcm) h1 h2 h3
theorem tgF_ok (c : CxOk G T S W X) : ∀ {es : List Expr} {z : P × List P}, tgF T S es = some z → PGs X es (RdGs G (z.1 :: z.2)) ∧ (assignEach es X.env).length = 1 + z.2.length ∧ (assignEach es X.env).findIdx? (·.1) = some 0 := fun {es z} h => by
  match es, h with
  | .Starred t p :: es, h =>
    unfold tgF at h
    simp only [Option.bind_eq_some_iff] at h
    obtain ⟨q, hq, rs, hrs, e⟩ := h
    cases e
    have ns : notStar t = true := by cases t <;> first | rfl | (unfold tgP at hq; cases hq)
    have a := asg_cons (es := es) (env := X.env) ns
    obtain ⟨h1, h2, h3⟩ := tgPs_ok c hrs
    have b : assignEach (.Starred t p :: es) X.env = (true, assign t X.env) :: assignEach es X.env := rfl
    refine ⟨pgs_starM (di_gcons (tgP_ok c hq) h1 (by rw [a]; rfl)) a, (by rw [b, List.length_cons, h2]; show rs.length + 1 = 1 + rs.length; omega), by rw [b, List.findIdx?_cons]; rfl⟩
  | [], h => unfold tgF at h; cases h
theorem tgPs_ok (c : CxOk G T S W X) : ∀ {es : List Expr} {ps : List P}, tgPs T S es = some ps → PGs X es (RdGs G ps) ∧ (assignEach es X.env).length = ps.length ∧ (assignEach es X.env).findIdx? (·.1) = none := fun {es ps} h => by
  match es, h with
  | [], h => unfold tgPs at h; cases h; exact ⟨di_gnil, rfl, rfl⟩
  | e :: es, h =>
    unfold tgPs at h
    split at h
    · rename_i hs
      simp only [Option.bind_eq_some_iff] at h
      obtain ⟨p, hp, q, hq, z⟩ := h
      cases z
      obtain ⟨h1, h2, h3⟩ := tgPs_ok c hq
      have a := asg_cons (es := es) (env := X.env) hs
      refine ⟨di_gcons (tgP_ok c hp) h1 (by rw [a]; rfl), by rw [a, List.length_cons, List.length_cons, h2], ?_⟩
      rw [a, List.findIdx?_cons, h3]; rfl
    · cases h
theorem tgS_ok (c : CxOk G T S W X) : ∀ {es : List Expr} {z : List P × P}, tgS T S es = some z → PGs X es (RdGs G (z.1 ++ [z.2])) ∧ (assignEach es X.env).length = z.1.length + 1 ∧ (assignEach es X.env).findIdx? (·.1) = some z.1.length := fun {es z} h => by
  match es, h with
  | [], h => unfold tgS at h; cases h
  | [.Starred t p], h =>
    unfold tgS at h
    obtain ⟨q, hq, e⟩ := Option.map_eq_some_iff.mp h
    subst e
    have ns : notStar t = true := by cases t <;> first | rfl | (unfold tgP at hq; cases hq)
    have a := asg_cons (es := []) (env := X.env) ns
    exact ⟨pgs_star (di_gcons (tgP_ok c hq) di_gnil (by rw [a]; rfl)) a, rfl, rfl⟩
  | e :: es, h =>
    by_cases hs : notStar e = true
    · have h' : (tgP T S e).bind (fun p => (tgS T S es).bind fun z => some (p :: z.1, z.2)) = some z := by
        cases e with
        | Starred t p => cases hs
        | _ => unfold tgS at h; rw [if_pos hs] at h; exact h
      simp only [Option.bind_eq_some_iff] at h'
      obtain ⟨p, hp, q, hq, y⟩ := h'
      cases y
      obtain ⟨h1, h2, h3⟩ := tgS_ok c hq
      have a := asg_cons (es := es) (env := X.env) hs
      refine ⟨di_gcons (tgP_ok c hp) h1 (by rw [a]; rfl), by rw [a, List.length_cons, List.length_cons, h2], ?_⟩
      rw [a, List.findIdx?_cons, h3]; rfl
    · cases e with
      | Starred t p =>
        cases es with
        | nil =>
          unfold tgS at h
          obtain ⟨q, hq, e⟩ := Option.map_eq_some_iff.mp h
          subst e
          have ns : notStar t = true := by cases t <;> first | rfl | (unfold tgP at hq; cases hq)
          have a := asg_cons (es := []) (env := X.env) ns
          exact ⟨pgs_star (di_gcons (tgP_ok c hq) di_gnil (by rw [a]; rfl)) a, rfl, rfl⟩
        | cons e2 es2 => unfold tgS at h; rw [if_neg (by simp [notStar])] at h; cases h
      | _ => exact absurd rfl hs
end
theorem tupE_of {e : Expr} (h : isTupE e = true) : ∃ es k p, e = .Tuple es k p := by
  cases e with
  | Tuple es k p => exact ⟨es, k, p, rfl⟩
  | _ => cases h
theorem it_ok (tk : TrOk T t) (c : CxOk G T S W X) {tg e : Expr} {m : M ItD} (h : itE T t S tg e = some m) : PI X tg e (RdI G W m) := by
  unfold itE at h
  split at h
  · by_cases hx : ‹Str› = "range"
    · rw [if_pos hx] at h
      subst hx
      split at h
      · rename_i hg
        simp only [Bool.and_eq_true, decide_eq_true_eq, List.isEmpty_iff] at hg
        obtain ⟨⟨g1, g2⟩, rfl⟩ := hg
        split at h
        · rename_i a
          obtain ⟨q, hq, e⟩ := Option.map_eq_some_iff.mp h
          subst e
          have hst := evsL_star hq
          rw [List.all_cons, Bool.and_eq_true] at hst
          exact di_itR1 (kind_gl c g1) (c.no _ g2) (evsL_ok tk c hq) (star_cons hst.1) fun r μ xs m1 z => evsL_len hq _ _ _ _ z
        · rename_i a b
          obtain ⟨q, hq, e⟩ := Option.map_eq_some_iff.mp h
          subst e
          have hst := evsL_star hq
          simp only [List.all_cons, Bool.and_eq_true] at hst
          exact di_itR2 (kind_gl c g1) (c.no _ g2) (evsL_ok tk c hq) (by rw [star_cons hst.1, star_cons hst.2.1]; rfl) (star_cons hst.2.1) fun r μ xs m1 z => evsL_len hq _ _ _ _ z
        · cases h
      · cases h
    · rw [if_neg hx] at h
      by_cases hz : ‹Str› = "zip"
      · rw [if_pos hz] at h
        subst hz
        split at h
        · rename_i hg
          simp only [Bool.and_eq_true, decide_eq_true_eq] at hg
          obtain ⟨⟨g1, g2⟩, g3⟩ := hg
          obtain ⟨es0, k0, p0, rfl⟩ := tupE_of g3
          split at h
          · rename_i a b
            obtain ⟨sb, hsb, h⟩ := Option.bind_eq_some_iff.mp h
            obtain ⟨q, hq, e⟩ := Option.map_eq_some_iff.mp h
            subst e
            have hst := evsL_star hq
            have h1 := hst
            simp only [List.all_cons, Bool.and_eq_true] at h1
            have s2 := star_none (env := X.env) (cp := ‹Pos›) (es := [b]) (by simp [h1.2.1])
            unfold zipKw at hsb
            split at hsb
            · cases hsb
              exact di_itZ0 c.hK (kind_gl c g1) (c.no _ g2) (evsL_ok tk c hq) (star_cons h1.1) (star_none (by simp [h1.2.1]))
            · split at hsb
              · rename_i hk
                subst hk
                cases hsb
                exact di_itZ1 c.hK (kind_gl c g1) (c.no _ g2) (evsL_ok tk c hq) (star_cons h1.1) (star_none (by simp [h1.2.1]))
              · cases hsb
            · cases hsb
          · cases h
        · cases h
      · rw [if_neg hz] at h
        by_cases he : ‹Str› = "enumerate"
        · rw [if_pos he] at h
          subst he
          split at h
          · rename_i hg
            simp only [Bool.and_eq_true, decide_eq_true_eq, List.isEmpty_iff] at hg
            obtain ⟨⟨⟨g1, g2⟩, g3⟩, rfl⟩ := hg
            obtain ⟨es0, k0, p0, rfl⟩ := tupE_of g3
            split at h
            · obtain ⟨q, hq, e⟩ := Option.map_eq_some_iff.mp h
              subst e
              have hst := evsL_star hq
              rw [List.all_cons, Bool.and_eq_true] at hst
              exact di_itN c.hK (kind_gl c g1) (c.no _ g2) (evsL_ok tk c hq) (star_cons hst.1)
            · cases h
          · cases h
        · rw [if_neg he] at h
          obtain ⟨q, hq, e⟩ := Option.map_eq_some_iff.mp h
          subst e
          exact di_itV c.hK (tk.ev _ _ _ _ hq _ _ c)
  · split at h
    · obtain ⟨q, hq, e⟩ := Option.map_eq_some_iff.mp h
      subst e
      exact di_itV c.hK (tk.ev _ _ _ _ hq _ _ c)
    · cases h
theorem fold_ok {e : Expr} {env : PySem.Env} (h : notSet e = true) : ∀ x, foldedSetIterable e env x = pure x := by
  intro x
  cases e <;> first | rfl | cases h
theorem ifs_ok (tk : TrOk T t) (c : CxOk G T S W0 X) {ifs : List Expr} {m : M Bool} (h : ifsE t S ifs = some m) : PTs X ifs (RdT G W0 m) := by
  unfold ifsE at h
  split at h
  · cases h; exact di_yes rfl
  · exact di_ifc (tk.evT _ _ _ _ h _ _ c)
  · cases h
theorem lc_ok (tk : TrOk T t) (c : CxOk G T S W X) {nw : Bool} {elt : Expr} {gs : List Comprehension} {sc : Scope} {pos : Pos} {m : M D} (h : lcE T t S nw elt gs sc = some m) : PE X (.ListComp elt gs sc pos) (RdE G W m) := by
  unfold lcE at h
  split at h
  · split at h
    · rename_i hc
      rw [Bool.and_eq_true, Bool.and_eq_true] at hc
      obtain ⟨⟨hcm, hc1⟩, hc2⟩ := hc
      simp only [Option.bind_eq_some_iff] at h
      obtain ⟨mi, hi, p, hp, mc, hm, me, he, h⟩ := h
      split at h
      · rename_i hall
        cases h
        rw [List.all_eq_true] at hall
        cases nw with
        | true =>
          exact di_lcN (c.calm hcm) (by rw [c.hN]; exact c.nd) (it_ok tk c hi) (by rw [c.hN, c.sc]; exact blkOk_by hc2) (fun i hi => of_decide_eq_true (hall i hi)) (fun i _ => c.fra hcm i) (fun s H C cl fp => tgP_ok (c.blk hcm s H sc C cl fp) hp) (fun s H C cl fp => ifs_ok tk (c.blk hcm s H sc C cl fp) hm)
            (fun s H C cl fp => tk.ev _ _ _ _ he _ _ (c.blk hcm s H sc C cl fp)) (fold_ok hc1)
        | false =>
          exact di_lc (c.calm hcm) (by rw [c.hN]; exact c.nd) (it_ok tk c hi) (by rw [c.hN, c.sc]; exact blkOk_by hc2) (fun i hi => of_decide_eq_true (hall i hi)) (fun i _ => c.fra hcm i) (fun s H C cl fp => tgP_ok (c.blk hcm s H sc C cl fp) hp) (fun s H C cl fp => ifs_ok tk (c.blk hcm s H sc C cl fp) hm)
            (fun s H C cl fp => tk.ev _ _ _ _ he _ _ (c.blk hcm s H sc C cl fp)) (fold_ok hc1)
      · cases h
    · cases h
  · cases h
theorem dict0_ok {pos : Pos} : PE X (.Dict [] [] pos) (RdE G W (mC (.dct []))) := by
  refine PE.imp (pe_frzd pe_dnewK) fun s H Q ⟨r, μ, t, se, ss, k⟩ => ?_
  intro p hp
  refine ⟨p, [], rfl, upd_same, fun o => ?_⟩
  rw [show upd (upd H p (HO.dK [])) p (.frz o (.dK [])) = upd H p (.frz o (.dK [])) from by funext b; by_cases h : b = p <;> simp [upd, h]]
  exact k _ _ t (Stp.fresh hp) (ss.new hp) (.dct ⟨o, upd_same⟩ .nil)
theorem stepE_ok (tk : TrOk T t) (c : CxOk G T S W X) {e : Expr} {m : M D} (h : stepE T t S e = some m) : PE X e (RdE G W m) := by
  unfold stepE at h
  split at h
  · exact const_ok h
  · exact nm_ok c h
  · simp only [Option.bind_eq_some_iff] at h
    obtain ⟨p, hp, q, hq, z⟩ := h
    cases z
    exact di_bin c.hK (tk.ev _ _ _ _ hp _ _ c) (tk.ev _ _ _ _ hq _ _ c)
  · obtain ⟨q, hq, z⟩ := Option.map_eq_some_iff.mp h
    subst z
    exact di_notV c.hK (tk.ev _ _ _ _ hq _ _ c)
  · obtain ⟨q, hq, z⟩ := Option.map_eq_some_iff.mp h
    subst z
    exact di_un (tk.ev _ _ _ _ hq _ _ c)
  · exact cmpE_ok tk c h
  · exact boolE_ok tk c h
  · simp only [Option.bind_eq_some_iff] at h
    obtain ⟨p, hp, q, hq, r, hr, z⟩ := h
    cases z
    exact di_if (tk.evT _ _ _ _ hp _ _ c) (tk.ev _ _ _ _ hq _ _ c) (tk.ev _ _ _ _ hr _ _ c)
  · obtain ⟨q, hq, z⟩ := Option.map_eq_some_iff.mp h
    subst z
    exact di_tup (evsL_ok tk c hq)
  · obtain ⟨q, hq, z⟩ := Option.map_eq_some_iff.mp h
    subst z
    split
    · exact di_newL (evsL_ok tk c hq)
    · exact di_lst (evsL_ok tk c hq)
  · exact sub_ok tk c h
  · exact call_ok tk c h
  · exact lc_ok tk c h
  · exact fldE_ok c h
  · obtain ⟨q, hq, z⟩ := Option.map_eq_some_iff.mp h
    subst z
    exact di_fmt (tk.ev _ _ _ _ hq _ _ c)
  · exact js_ok tk c h
  · cases h; exact dict0_ok
  · cases h
theorem truly_ok {e : Expr} {env : PySem.Env} (h : trulyB e = true) : ∀ whole, isTrue e env whole = (do let v ← whole; standAt e.pos; holding [v] (truthy v)) := by
  intro w
  cases e with
  | UnaryOp op a p => cases op <;> first | rfl | cases h
  | _ => first | rfl | cases h
theorem stepT_ok (tk : TrOk T t) (c : CxOk G T S W X) {e : Expr} {m : M Bool} (h : stepT T t S e = some m) : PT X e (RdT G W m) := by
  unfold stepT at h
  split at h
  · obtain ⟨q, hq, z⟩ := Option.map_eq_some_iff.mp h
    subst z
    exact di_notT (tk.evT _ _ _ _ hq _ _ c)
  · exact (boolT_ok tk c h).pt
  · exact cmpT_ok tk c h
  · split at h
    · rename_i ht
      obtain ⟨q, hq, z⟩ := Option.map_eq_some_iff.mp h
      subst z
      exact di_tru c.hK (tk.ev _ _ _ _ hq _ _ c) (truly_ok ht)
    · cases h
end
section
variable {G : Gx} {T : TC} {S : SC} {W : WX} {X : Cx} {t : Tr}
theorem nosl_ok {b : Expr} (h : plainIxB b = true) : NoSl b := by
  intro o i
  cases b <;> first | rfl | cases h
theorem dctE_ok (tk : TrOk T t) (c : CxOk G T S W X) : ∀ {ks : List (Option Expr)} {es : List Expr} {l : List (Str × M D)}, dctE t S ks es = some l → PDs X G W ks es l := fun {ks es l} h => by
  match ks, es, h with
  | [], [], h => cases h; exact .nil
  | some (.Constant (.str x) j p) :: ks, e :: es, h =>
    unfold dctE at h
    simp only [Option.bind_eq_some_iff] at h
    obtain ⟨m, hm, q, hq, z⟩ := h
    cases z
    exact .cons (tk.ev _ _ _ _ hm _ _ c) (dctE_ok tk c hq)
theorem dcE_ok (tk : TrOk T t) (c : CxOk G T S W X) {kx vx : Expr} {gs : List Comprehension} {sc : Scope} {pos : Pos} {m : M D} (h : dcE T t S kx vx gs sc = some m) : PE X (.DictComp kx vx gs sc pos) (RdE G W m) := by
  unfold dcE at h
  split at h
  · split at h
    · rename_i hc
      rw [Bool.and_eq_true, Bool.and_eq_true] at hc
      obtain ⟨⟨hcm, hc1⟩, hc2⟩ := hc
      simp only [Option.bind_eq_some_iff] at h
      obtain ⟨mi, hi, p, hp, mc, hm, mk, hk, mv, hv, h⟩ := h
      split at h
      · rename_i hall
        cases h
        rw [List.all_eq_true] at hall
        exact di_dc (c.calm hcm) (by rw [c.hN]; exact c.nd) (it_ok tk c hi) (by rw [c.hN, c.sc]; exact blkOk_by hc2) (fun i hi => of_decide_eq_true (hall i hi)) (fun i _ => c.fra hcm i) (fun s H C cl fp => tgP_ok (c.blk hcm s H sc C cl fp) hp) (fun s H C cl fp => ifs_ok tk (c.blk hcm s H sc C cl fp) hm)
          (fun s H C cl fp => tk.ev _ _ _ _ hk _ _ (c.blk hcm s H sc C cl fp)) (fun s H C cl fp => tk.ev _ _ _ _ hv _ _ (c.blk hcm s H sc C cl fp)) (fold_ok hc1)
      · cases h
    · cases h
  · cases h
theorem altE_ok (tk : TrOk T t) (c : CxOk G T S W X) {e : Expr} {m : M D} (h : altE T t S e = some m) : PE X e (RdE G W m) := by
  unfold altE at h
  split at h
  · split at h
    · obtain ⟨q, hq, z⟩ := Option.map_eq_some_iff.mp h
      subst z
      exact di_frzE (nm_ok c hq)
    · cases h
  · split at h
    · rename_i hf
      rw [Bool.and_eq_true] at hf
      simp only [Option.bind_eq_some_iff] at h
      obtain ⟨p, hp, q, hq, z⟩ := h
      cases z
      exact di_cmpR c.hK c.un (tk.ev _ _ _ _ hp _ _ c) (tk.ev _ _ _ _ hq _ _ c) (by simpa using hf.2)
    · cases h
  · split at h
    · rename_i hf
      simp only [Bool.and_eq_true, decide_eq_true_eq] at hf
      obtain ⟨⟨⟨⟨_, rfl⟩, hg⟩, hn⟩, hs⟩ := hf
      obtain ⟨q, hq, z⟩ := Option.map_eq_some_iff.mp h
      subst z
      exact di_callTy (call_listN_di c.hK) (kind_gl c hg) (c.no _ hn) rfl (di_cons (tk.ev _ _ _ _ hq _ _ c) di_nil (star_cons hs)) (by decide) rfl (star_cons hs) (star_none rfl)
    · split at h
      · rename_i hf
        simp only [Bool.and_eq_true, decide_eq_true_eq] at hf
        obtain ⟨⟨⟨⟨_, rfl⟩, hg⟩, hn⟩, hs⟩ := hf
        obtain ⟨q, hq, z⟩ := Option.map_eq_some_iff.mp h
        subst z
        exact di_callB (call_reprR_di c.hK c.gd c.un) (kind_gl c hg) (c.no _ hn) rfl (di_cons (tk.ev _ _ _ _ hq _ _ c) di_nil (star_cons hs)) (by decide) rfl (star_cons hs) (star_none rfl)
      · cases h
  · split at h
    · simp only [Option.bind_eq_some_iff] at h
      obtain ⟨p, hp, q, hq, z⟩ := h
      cases z
      exact di_ap2 (pe_op op_catN (tk.ev _ _ _ _ hp _ _ c) (tk.ev _ _ _ _ hq _ _ c))
    · cases h
  · split at h
    · rename_i hf
      rw [Bool.and_eq_true] at hf
      simp only [Option.bind_eq_some_iff] at h
      obtain ⟨p, hp, q, hq, z⟩ := h
      cases z
      exact di_dget c.u64 (tk.ev _ _ _ _ hp _ _ c) (tk.ev _ _ _ _ hq _ _ c) (nosl_ok hf.2)
    · unfold kdE at h
      split at h
      · cases h
      · rename_i ho
        obtain ⟨o1, o2, o3⟩ := oddN_ok (by simpa using ho)
        split at h
        · rename_i hg
          rw [Bool.and_eq_true] at hg
          obtain ⟨kvs, hk, h⟩ := Option.bind_eq_some_iff.mp h
          obtain ⟨q, hq, z⟩ := Option.map_eq_some_iff.mp h
          subst z
          obtain ⟨p, hm, h2⟩ := c.kd _ _ hk
          exact di_kd (kind_gl c hg.1) hm o1 h2 (tk.ev _ _ _ _ hq _ _ c) (plain_ok hg.2)
        · cases h
  · split at h
    · rename_i hf
      rw [Bool.and_eq_true] at hf
      simp only [Option.bind_eq_some_iff] at h
      obtain ⟨p, hp, q, hq, z⟩ := h
      cases z
      exact di_dget c.u64 (tk.ev _ _ _ _ hp _ _ c) (tk.ev _ _ _ _ hq _ _ c) (nosl_ok hf.2)
    · cases h
  · exact dcE_ok tk c h
  · split at h
    · rename_i hl
      obtain ⟨q, hq, z⟩ := Option.map_eq_some_iff.mp h
      subst z
      exact di_dct (dctE_ok tk c hq) (fun z => nomatch z) hl
    · cases h
  · cases h
theorem altT_ok (tk : TrOk T t) (c : CxOk G T S W X) {e : Expr} {m : M Bool} (h : altT T t S e = some m) : PT X e (RdT G W m) := by
  unfold altT at h
  split at h
  · split at h
    · rename_i hf
      rw [Bool.and_eq_true] at hf
      simp only [Option.bind_eq_some_iff] at h
      obtain ⟨p, hp, q, hq, z⟩ := h
      cases z
      exact di_cmpTR c.hK c.un (tk.ev _ _ _ _ hp _ _ c) (tk.ev _ _ _ _ hq _ _ c) (by simpa using hf.2)
    · cases h
  · cases h
end
theorem tr_ok {T : TC} : ∀ n : Nat, TrOk T (tr T n)
  | 0 => ⟨fun _ _ _ m h => (by cases (show none = some m from h)), fun _ _ _ m h => (by cases (show none = some m from h))⟩
  | n + 1 => ⟨fun G S e m h W X c => by
      have h : (match altE T (tr T n) S e with
        | some m => some m
        | none => stepE T (tr T n) S e) = some m := h
      cases z : altE T (tr T n) S e with
      | some m' => rw [z] at h; cases h; exact altE_ok (tr_ok n) c z
      | none => rw [z] at h; exact stepE_ok (tr_ok n) c h, fun G S e m h W X c => by
      have h : (match altT T (tr T n) S e with
        | some m => some m
        | none => stepT T (tr T n) S e) = some m := h
      cases z : altT T (tr T n) S e with
      | some m' => rw [z] at h; cases h; exact altT_ok (tr_ok n) c z
      | none => rw [z] at h; exact stepT_ok (tr_ok n) c h⟩

/-! ### statements -/
structure StkOk (X : Cx) : Prop where
  hs : X.stack = X.env :: X.outer
  hf : X.env.frame = some X.env.locals
structure SOk (T : TC) (u : TrS) : Prop where
  ex : ∀ G S b m, u S b = some m → ∀ W X, CxOk G T S W X → StkOk X → PassesOwn (model X.prog X.w) X.A X.env X.xe → PSs X b (RdS G W m)
section
variable {G : Gx} {T : TC} {S : SC} {W : WX} {X : Cx} {t : Tr} {u : TrS}
theorem swap_ok {e : Expr} {o : Option Expr} {l : Nat} {env : PySem.Env} (h : isLc e = false) : swapsWith e o l env = pure false := by
  cases e <;> first | rfl | cases h
theorem swapS_ok {tg e : Expr} {l : Nat} {env : PySem.Env} (h : isLc e = false) : swapsWithSole [tg] e l env = pure false := by
  unfold swapsWithSole; exact swap_ok h
theorem blk_fun (c : CxOk G T S W X) (h : funK S = true) : X.env.blockKind = .function := by
  have k : S.sc.kind = .function := by
    unfold funK at h
    split at h
    · assumption
    · cases h
  unfold PySem.Env.blockKind
  rw [c.sc, k]; rfl
theorem kind_local {x : Str} (c : CxOk G T S W X) (h : isLocal (S.kind x) = true) : X.env.scope.names.lookup x = some .local := by
  rw [c.sc]
  unfold SC.kind isLocal at h
  revert h
  cases S.sc.names.lookup x with
  | none => intro h; cases h
  | some k => cases k <;> intro h <;> first | rfl | cases h
theorem swapT_ok {tg e : Expr} {l : Nat} {env : PySem.Env} (h : nameOf tg = none) : swapsWithSole [tg] e l env = pure false := by
  unfold swapsWithSole
  cases tg with
  | Name x p => cases h
  | _ => cases e <;> rfl
theorem name_of {e : Expr} {x : Str} {p : Pos} (h : nameOf e = some (x, p)) : e = .Name x p := by
  cases e with
  | Name y q => cases h; rfl
  | _ => cases h
theorem par_ok (tk : TrOk T t) (c : CxOk G T S W X) {a b x y : Expr} {pt pt2 pos : Pos} {kt k2 : Nat} {m : SM} (h : parE T t S a b x y = some m) : PS X (.Assign [.Tuple [a, b] kt pt] (.Tuple [x, y] k2 pt2) pos) (RdS G W m) := by
  unfold parE at h
  split at h
  · rename_i n1 p1 n2 p2 h1 h2
    obtain rfl := name_of h1
    obtain rfl := name_of h2
    split at h
    · rename_i hc
      simp only [Bool.and_eq_true, Bool.not_eq_true', decide_eq_false_iff_not, beq_iff_eq] at hc
      obtain ⟨⟨⟨⟨⟨hcm, f⟩, ⟨⟨l1, l2⟩, ln⟩, ne⟩, s1, s2⟩, c1⟩, c2⟩ := hc
      simp only [Option.bind_eq_some_iff] at h
      obtain ⟨i, hi, j, hj, p, hp, q, hq, h⟩ := h
      split at h
      · cases h
      · rename_i hij
        cases h
        have bk := blk_fun c f
        have k1 := kind_local c l1
        have k2' := kind_local c l2
        have kk1 : X.env.kindOf n1 = some .local := k1
        have kk2 : X.env.kindOf n2 = some .local := k2'
        refine di_par (c.calm hcm) (by rw [c.hN]; exact c.nd) (by rw [c.hN]; exact ixOf_ok hi) (by rw [c.hN]; exact ixOf_ok hj) hij (c.fra hcm i) (c.fra hcm j) k1 k2' (di_cons (tk.ev _ _ _ _ hp _ _ c) (di_cons (tk.ev _ _ _ _ hq _ _ c) di_nil (star_cons s2)) (star_cons s1)) ?_ (swapT_ok rfl)
        unfold swappedStores
        have ed : [n1, n2].eraseDups = [n1, n2] := by
          have : (n2 == n1) = false := by simpa using fun z => ne z.symm
          simp [List.eraseDups_cons, this]
        have d1 : ¬ (foldedForSure 8 x = true ∧ foldedForSure 8 y = true) := by simpa using c1
        have d2 : ¬ (constantsAlone 8 x = true ∧ constantsAlone 8 y = true) := by simpa using c2
        simp [bk, kk1, kk2, ln, Expr.pos, ed, d1, d2]
        intro hh
        rcases hh with hh | hh
        · exact absurd hh (by revert s1; cases x <;> simp [notStar])
        · exact absurd hh (by revert s2; cases y <;> simp [notStar])
    · cases h
  · cases h
theorem lcS_ok (tk : TrOk T t) (c : CxOk G T S W X) {i : Nat} {x : Str} {p : Pos} {elt : Expr} {gs : List Comprehension} {sc : Scope} {lp pos : Pos} {nw : Bool} {m : M D} (hi : T.N[i]? = some x) (hx : X.env.scope.names.lookup x = some .local)
    (hB : swapsWith (.ListComp elt gs sc lp) (some (.Name x p)) pos.line X.env = pure true) (h : lcE T t S nw elt gs sc = some m) : PS X (.Assign [.Name x p] (.ListComp elt gs sc lp) pos) (RdS G W (sAsg (.nm i) m)) := by
  unfold lcE at h
  split at h
  · split at h
    · rename_i hc
      rw [Bool.and_eq_true, Bool.and_eq_true] at hc
      obtain ⟨⟨hcm, hc1⟩, hc2⟩ := hc
      simp only [Option.bind_eq_some_iff] at h
      obtain ⟨mi, hi2, p2, hp, mc, hm, me, he, h⟩ := h
      split at h
      · rename_i hall
        cases h
        rw [List.all_eq_true] at hall
        cases nw with
        | true =>
          exact di_setLcN (c.calm hcm) (by rw [c.hN]; exact c.nd) (by rw [c.hN]; exact hi) hx hB (it_ok tk c hi2) (by rw [c.hN, c.sc]; exact blkOk_by hc2) (fun i hi => of_decide_eq_true (hall i hi)) (fun i _ => c.fra hcm i) (c.fra hcm _) (fun s H C cl fp => tgP_ok (c.blk hcm s H sc C cl fp) hp) (fun s H C cl fp => ifs_ok tk (c.blk hcm s H sc C cl fp) hm)
            (fun s H C cl fp => tk.ev _ _ _ _ he _ _ (c.blk hcm s H sc C cl fp)) (fold_ok hc1)
        | false =>
          exact di_setLc (c.calm hcm) (by rw [c.hN]; exact c.nd) (by rw [c.hN]; exact hi) hx hB (it_ok tk c hi2) (by rw [c.hN, c.sc]; exact blkOk_by hc2) (fun i hi => of_decide_eq_true (hall i hi)) (fun i _ => c.fra hcm i) (c.fra hcm _) (fun s H C cl fp => tgP_ok (c.blk hcm s H sc C cl fp) hp) (fun s H C cl fp => ifs_ok tk (c.blk hcm s H sc C cl fp) hm)
            (fun s H C cl fp => tk.ev _ _ _ _ he _ _ (c.blk hcm s H sc C cl fp)) (fold_ok hc1)
      · cases h
    · cases h
  · cases h
theorem filt_lt {α β : Type} {f : α → Option β} : ∀ {l : List α}, (∃ a ∈ l, f a = none) → (l.filterMap f).length < l.length
  | [], h => by obtain ⟨a, ha, _⟩ := h; cases ha
  | b :: l, h => by
    obtain ⟨a, ha, e⟩ := h
    rw [List.filterMap_cons]
    have le : (l.filterMap f).length ≤ l.length := List.length_filterMap_le ..
    rcases List.mem_cons.mp ha with rfl | ha
    · rw [e]; simp only [List.length_cons]; omega
    · have := filt_lt (f := f) (l := l) ⟨a, ha, e⟩
      cases f b with
      | none => simp only [List.length_cons]; omega
      | some c => simp only [List.length_cons]; omega
theorem nosw_ok (c : CxOk G T S W X) {es vs : List Expr} {kt k2 : Nat} {pt p2 : Pos} (h : noSwap S es = true) : swappedStores [.Tuple es kt pt] (.Tuple vs k2 p2) X.env = pure none := by
  obtain ⟨e, he, hn⟩ := List.any_eq_true.mp h
  have key : (es.filterMap fun
    | .Name id pos => if X.env.kindOf id == some .local && pos.line == (es.head?.map (·.pos.line)).getD 0 then some id else none
    | _ => none).length < es.length := by
    refine filt_lt ⟨e, he, ?_⟩
    cases e with
    | Name id pos =>
      have hk : isLocal (S.kind id) = false := by simpa [nameOf] using hn
      have hk2 : (X.env.kindOf id == some .local) = false := by
        show (X.env.scope.names.lookup id == some .local) = false
        rw [c.sc]
        unfold SC.kind isLocal at hk
        revert hk
        cases S.sc.names.lookup id with
        | none => intro _; rfl
        | some k => cases k <;> intro hk <;> first | rfl | cases hk
      simp [hk2]
    | _ => rfl
  unfold swappedStores
  simp only [pure_bind]
  split
  · rfl
  split
  · rfl
  rw [if_pos (by simp only [bne_iff_ne, ne_eq, Bool.or_eq_true]; exact .inl (Nat.ne_of_lt key))]
theorem asgE_ok (tk : TrOk T t) (c : CxOk G T S W X) {tg e : Expr} {pos : Pos} {m : SM} (h : asgE T t S tg e = some m) : PS X (.Assign [tg] e pos) (RdS G W m) := by
  unfold asgE at h
  split at h
  · rename_i x p
    split at h
    · rename_i hc
      simp only [Bool.and_eq_true] at hc
      obtain ⟨⟨h1, h2⟩, h3⟩ := hc
      simp only [Option.bind_eq_some_iff] at h
      obtain ⟨i, hi, h⟩ := h
      split at h
      · cases h
      rename_i hfr0
      have hfr : G.fr i = true := c.fre i (by simpa using hfr0)
      obtain ⟨a, ha, z⟩ := Option.bind_eq_some_iff.mp h
      cases z
      split at ha
      · rename_i elt gs sc lp
        simp only [lcOk] at h3
        have bk := blk_fun c h3
        by_cases hk : isLocal (S.kind x) = true
        · have kl := kind_local c hk
          obtain ⟨B, hB⟩ : ∃ B : Bool, swapsWith (.ListComp elt gs sc lp) (some (.Name x p)) pos.line X.env = pure B := ⟨_, rfl⟩
          cases B with
          | true => exact lcS_ok tk c (ixOf_ok hi) kl hB ha
          | false => exact di_asgN (by rw [c.hN]; exact c.nd) (by rw [c.hN]; exact ixOf_ok hi) (kind_loc c h1) (lc_ok tk c ha) hB (kind_ok c h2) hfr
        · have hk2 : (X.env.kindOf x == some .local) = false := by
            show (X.env.scope.names.lookup x == some .local) = false
            rw [c.sc]
            unfold SC.kind isLocal at hk
            revert hk
            cases S.sc.names.lookup x with
            | none => intro _; rfl
            | some k => cases k <;> intro hk <;> first | rfl | exact absurd rfl hk
          have hB : swapsWith (.ListComp elt gs sc lp) (some (.Name x p)) pos.line X.env = pure false := by
            show pure _ = pure false
            simp [hk2]
          exact di_asgN (by rw [c.hN]; exact c.nd) (by rw [c.hN]; exact ixOf_ok hi) (kind_loc c h1) (lc_ok tk c ha) hB (kind_ok c h2) hfr
      · rename_i nl
        have hl : isLc e = false := by
          cases e with
          | ListComp a b c d => exact absurd rfl (nl a b c d)
          | SetComp => simp [lcOk] at h3
          | DictComp => simp [lcOk] at h3
          | _ => rfl
        exact di_asgN (by rw [c.hN]; exact c.nd) (by rw [c.hN]; exact ixOf_ok hi) (kind_loc c h1) (tk.ev _ _ _ _ ha _ _ c) (swap_ok hl) (kind_ok c h2) hfr
    · cases h
  · split at h
    · split at h
      · exact par_ok tk c h
      · cases h
    · rename_i es kt pt ht
      simp only [Option.bind_eq_some_iff] at h
      obtain ⟨p, hp, a, ha, z⟩ := h
      cases z
      refine di_asg (tk.ev _ _ _ _ ha _ _ c) (tgP_ok c hp) (swapT_ok rfl) ?_ rfl
      cases e with
      | Tuple vs k2 p2 => exact nosw_ok c (by simpa [isTupE] using ht)
      | _ => rfl
  · split at h
    · rename_i hb
      simp only [Option.bind_eq_some_iff] at h
      obtain ⟨p, hp, q, hq, a, ha, z⟩ := h
      cases z
      exact di_setIx (tk.ev _ _ _ _ ha _ _ c) (tk.ev _ _ _ _ hp _ _ c) (tk.ev _ _ _ _ hq _ _ c) (fun v => by rename_i o i ps; cases i <;> first | rfl | cases hb) (swapT_ok rfl) rfl
    · cases h
  · cases h
theorem raise_ok (tk : TrOk T t) (c : CxOk G T S W X) {x : Str} {es : List Expr} {p pc pos : Pos} {m : SM} (h : raiseE T t S x es = some m) : PS X (.Raise (some (.Call (.Name x p) es [] pc)) none pos) (RdS G W m) := by
  unfold raiseE at h
  split at h
  · cases h
  rename_i ho
  obtain ⟨o1, o2, o3⟩ := oddN_ok (by simpa using ho)
  split at h
  rotate_left
  · cases h
  rename_i hc
  rw [Bool.and_eq_true] at hc
  split at h
  · rename_i k hk
    have hm : ∀ C, G.ca k = some C → X.mg x = some (.ref C) := fun C hC => by
      obtain ⟨v, u, hm, rv, rd⟩ := c.gl _ _ hk
      have z := rd [] (fun _ => none)
      cases z with
      | cls z =>
        obtain rfl : u = Value.ref _ := rv
        rw [hC] at z; cases z
        exact hm
    split at h
    · rename_i hx
      split at h
      · cases h
        exact di_throw (c.calm hc.1) c.tk (c.xcs _ _ hx) (kind_gl c hc.2) hm o1
      · cases h
    · rename_i fs hx
      split at h
      · cases h
      · rename_i e es
        split at h
        · rename_i hl
          obtain ⟨q, hq, z⟩ := Option.map_eq_some_iff.mp h
          subst z
          have hst := evsL_star hq
          rw [List.all_cons, Bool.and_eq_true] at hst
          exact di_raise (c.calm hc.1) c.tk (c.xcs _ _ hx) (c.rm hc.1) (kind_gl c hc.2) hm o1 (evsL_ok tk c hq) (fun r m xs m1 z => by rw [evsL_len hq _ _ _ _ z, hl]) (star_cons hst.1) (star_none hst.2)
        · cases h
    · cases h
  · cases h
/-- a try's body -/
theorem CxOk.try_ (c : CxOk G T S W X) (hcm : S.calm = true) {W' : WX} {pn : List (Addr × Obj)} {xe : Value → Shared → Prop} (tk : Takes (X.tr pn xe) W') : CxOk G T S W' (X.tr pn xe) :=
  ⟨c.hN, c.nd, c.sc, c.fn, c.hK, c.calm, c.exn, c.fre, fun n i k fs h => (by rw [c.exn hcm] at h; cases h), c.rm, c.xcs, c.isa, c.un, c.gd, c.gl, c.no, fun h k np dfl hs => (by
    obtain ⟨f, fd, ps, lev, h1, h2, h3, h4, h5⟩ := (c.fns h k np dfl hs).ex
    exact ⟨f, fd, ps, lev, h1, h2, h3, h4, h5⟩), tk, c.kd⟩
theorem takes_w0 : Takes X W0 := fun _ _ ⟨_, _, _, _, _, _, _, _, _, _, _, _, _, _, _, _, w⟩ => w.elim
/-- an except suite -/
theorem CxOk.suN (c : CxOk G T S W X) (hcm : S.calm = true) {a : Addr} {oe : Obj} {cls : Value} {d : Option Addr} {pn : List (Addr × Obj)} {k : Nat} {fs : List (Str × D)} : CxOk (Gsu G none a k fs cls d) T S.suN W0 (X.suite a ((a, oe) :: pn)) :=
  ⟨c.hN, c.nd, c.sc, c.fn, c.hK, (fun h => nomatch h), (fun h => nomatch h), (fun i _ => by show (!decide ((none : Option Nat) = some i) && G.fr i) = true; rw [c.fra hcm i]; rfl), (fun n i k fs h => nomatch h), (fun h => nomatch h), c.xcs, c.isa, c.un, c.gd, (fun x dd h =>
    let ⟨v, u, h1, h2, h3⟩ := c.gl x dd h
    ⟨v, u, h1, h2, fun t H => RD.cg (G := G) (G' := Gsu G none a k fs cls d) rfl rfl rfl (h3 t H)⟩), c.no, (fun h => nomatch h), takes_w0, fun x kvs h =>
    let ⟨p, h1, h2⟩ := c.kd x kvs h
    ⟨p, h1, fun z dd hz => let ⟨v, h3, h4⟩ := h2 z dd hz; ⟨v, h3, fun t H => RD.cg (G := G) (G' := Gsu G none a k fs cls d) rfl rfl rfl (h4 t H)⟩⟩⟩
theorem CxOk.su (c : CxOk G T S W X) (hcm : S.calm = true) {n : Str} {i : Nat} (hi : ixOf T.N n = some i) (hl : X.env.scope.names.lookup n = some .local) (ho : oddN n = false) {a : Addr} {oe : Obj} {cls : Value} {d : Option Addr} {pn : List (Addr × Obj)} {k : Nat} {fs : List (Str × D)} (hz : Zc cls d oe) (hf : ∃ vs, oe.data = .fields vs) :
    CxOk (Gsu G (some i) a k fs cls d) T (S.su n i k fs) W0 (X.suite a ((a, oe) :: pn)) :=
  ⟨c.hN, c.nd, c.sc, c.fn, c.hK, (fun h => nomatch h), (fun h => nomatch h), (fun j hj => by
    have hj' : (!decide (i = j)) = true := hj
    show (!decide (some i = some j) && G.fr j) = true
    rw [c.fra hcm j]
    simpa using hj'), (fun n' i' k' fs' h => by
    have h' : some (n, i, k, fs) = some (n', i', k', fs') := h
    cases h'
    obtain ⟨o1, o2, _⟩ := oddN_ok ho
    exact ⟨(show X.N[i]? = some n by rw [c.hN]; exact ixOf_ok hi), .inl hl, o1, o2, a, oe, cls, d, List.mem_cons_self, hz, hf, fun s t H q => ⟨q.1 i rfl, RX.cg (G := G) (G' := Gsu G (some i) a k fs cls d) rfl rfl rfl q.2.1⟩⟩), (fun h => nomatch h), c.xcs, c.isa, c.un, c.gd, (fun x dd h =>
    let ⟨v, u, h1, h2, h3⟩ := c.gl x dd h
    ⟨v, u, h1, h2, fun t H => RD.cg (G := G) (G' := Gsu G (some i) a k fs cls d) rfl rfl rfl (h3 t H)⟩), c.no, (fun h => nomatch h), takes_w0, fun x kvs h =>
    let ⟨p, h1, h2⟩ := c.kd x kvs h
    ⟨p, h1, fun z dd hz => let ⟨v, h3, h4⟩ := h2 z dd hz; ⟨v, h3, fun t H => RD.cg (G := G) (G' := Gsu G (some i) a k fs cls d) rfl rfl rfl (h4 t H)⟩⟩⟩
theorem suE_ok (uk : SOk T u) {S' : SC} {G' : Gx} {X' : Cx} {b : List Stmt} (c : CxOk G' T S' W0 X') (sk : StkOk X') (po : PassesOwn (model X'.prog X'.w) X'.A X'.env X'.xe) : PSs X' b (RdS G' W0 (suE u S' b)) := by
  unfold suE
  cases e : u S' b with
  | some m => exact uk.ex _ _ _ _ e _ _ c sk po
  | none => exact ⟨fun pins s σ H E I ⟨r, μ, t, se, ss, kk⟩ => kk.elim⟩
theorem clsE_ok (uk : SOk T u) (c : CxOk G T S W X) (sk : StkOk X) (hcm : S.calm = true) : ∀ {hs : List ExceptHandler} {l : List Cl}, clsE T u S hs = some l → HdsD G X hs l := fun {hs l} h => by
  match hs, h with
  | [], h => unfold clsE at h; cases h; exact .nil
  | .ExceptHandler (some (.Name x xp)) none (b0 :: su) pos' :: r, h =>
    unfold clsE at h
    simp only [Option.bind_eq_some_iff] at h
    obtain ⟨k, hk, l', hl, z⟩ := h
    cases z
    obtain ⟨y, q, e1, hc⟩ := ckE_ok c hk
    cases e1
    exact .cons hc (fun a oe cls d pn k fs hz hf => suE_ok uk (c.suN hcm) ⟨sk.hs, sk.hf⟩ PassesOwn.never) (clsE_ok uk c sk hcm hl)
  | .ExceptHandler (some (.Name x xp)) (some n) (b0 :: su) pos' :: r, h =>
    unfold clsE at h
    simp only [Option.bind_eq_some_iff] at h
    obtain ⟨k, hk, l', hl, h⟩ := h
    split at h
    · rename_i hn
      simp only [Bool.and_eq_true, Bool.not_eq_true'] at hn
      obtain ⟨i, hi, z⟩ := Option.bind_eq_some_iff.mp h
      cases z
      obtain ⟨y, q, e1, hc⟩ := ckE_ok c hk
      cases e1
      exact .consN hc (by rw [c.hN]; exact c.nd) (by rw [c.hN]; exact ixOf_ok hi) (kind_local c hn.1) (c.fra hcm i) (fun a oe cls d pn k fs hz hf => suE_ok uk (c.su hcm hi (kind_local c hn.1) hn.2 hz hf) ⟨sk.hs, sk.hf⟩ PassesOwn.never) (clsE_ok uk c sk hcm hl)
    · cases h
theorem try_ok (uk : SOk T u) (c : CxOk G T S W X) (sk : StkOk X) {b : List Stmt} {hs : List ExceptHandler} {pos : Pos} {m : SM} (h : tryE T u S b hs = some m) : PS X (.Try b hs [] [] pos) (RdS G W m) := by
  unfold tryE at h
  split at h
  · rename_i hc
    rw [Bool.and_eq_true] at hc
    simp only [Option.bind_eq_some_iff] at h
    obtain ⟨mb, hb, cl, hcl, z⟩ := h
    cases z
    have hh := clsE_ok uk c sk hc.1 hcl
    cases hs with
    | nil => simp at hc
    | cons h0 hds => exact di_try sk.hs sk.hf c.tk c.isa (fun W' pn xe tk po => uk.ex _ _ _ _ hb _ _ (c.try_ hc.1 tk) ⟨sk.hs, sk.hf⟩ po) hh
  · cases h
theorem exOne_ok (tk : TrOk T t) (uk : SOk T u) (c : CxOk G T S W X) (sk : StkOk X) (po : PassesOwn (model X.prog X.w) X.A X.env X.xe) {st : Stmt} {m : SM} (h : exOne T t u S st = some m) : PS X st (RdS G W m) := by
  unfold exOne at h
  split at h
  · split at h
    · cases h
    · rename_i hl
      obtain ⟨q, hq, z⟩ := Option.map_eq_some_iff.mp h
      subst z
      exact di_drop (tk.ev _ _ _ _ hq _ _ c) (swap_ok (by simpa using hl))
  · obtain ⟨q, hq, z⟩ := Option.map_eq_some_iff.mp h
    subst z
    exact di_ret (tk.ev _ _ _ _ hq _ _ c)
  · cases h; exact di_retN
  · cases h; exact di_pass
  · cases h; exact di_brk
  · cases h; exact di_cont
  · simp only [Option.bind_eq_some_iff] at h
    obtain ⟨p, hp, q, hq, r, hr, z⟩ := h
    cases z
    exact di_ifS (tk.evT _ _ _ _ hp _ _ c) (uk.ex _ _ _ _ hq _ _ c sk po) (uk.ex _ _ _ _ hr _ _ c sk po)
  · exact asgE_ok tk c h
  · exact raise_ok tk c h
  · exact try_ok uk c sk h
  · simp only [Option.bind_eq_some_iff] at h
    obtain ⟨p, hp, b, hb, z⟩ := h
    cases z
    exact di_while po (tk.evT _ _ _ _ hp _ _ c) (uk.ex _ _ _ _ hb _ _ c sk po)
  · split at h
    · rename_i hs0
      obtain ⟨hcm, hs⟩ := Bool.and_eq_true_iff.mp hs0
      simp only [Option.bind_eq_some_iff] at h
      obtain ⟨mi, hi, p, hp, b, hb, z⟩ := h
      cases z
      exact di_for po (c.calm hcm) (it_ok tk c hi) (tgP_ok c hp) (uk.ex _ _ _ _ hb _ _ c sk po) (fold_ok hs)
    · cases h
  · cases h
theorem exList_ok (tk : TrOk T t) (uk : SOk T u) (c : CxOk G T S W X) (sk : StkOk X) (po : PassesOwn (model X.prog X.w) X.A X.env X.xe) : ∀ {b : List Stmt} {m : SM}, exList T t u S b = some m → PSs X b (RdS G W m)
  | [], m, h => by cases h; exact di_nxs
  | [a], m, h => di_one_s (exOne_ok tk uk c sk po h)
  | a :: b :: r, m, h => by
    unfold exList at h
    simp only [Option.bind_eq_some_iff] at h
    obtain ⟨p, hp, q, hq, z⟩ := h
    cases z
    exact di_seq (exOne_ok tk uk c sk po hp) (exList_ok tk uk c sk po hq)
end
theorem trS_ok {T : TC} {t : Tr} (tk : TrOk T t) : ∀ n : Nat, SOk T (trS T t n)
  | 0 => ⟨fun _ _ _ m h => (by cases (show none = some m from h))⟩
  | n + 1 => ⟨fun G S b m h W X c sk po => exList_ok tk (trS_ok tk n) c sk po h⟩
end DI

set_option Elab.async false
set_option linter.all false
set_option maxRecDepth 100000
set_option maxHeartbeats 4000000
/-! DIM: a text's defs at every depth; the law's end; what the head must tell. -/
namespace DI
open PySem PySem.Spec L2
open PyProof.Rows hiding St

/-- __init__ of a class as it is written -/
def clsInit (s : Stmt) : Stmt := match s with
  | .ClassDef _ _ _ b _ _ _ _ _ _ _ => b.getD 0 (.Pass ⟨0, 0, 0, 0⟩)
  | s => s
/-- one def of the text -/
structure PD where
  np : Nat
  N : List Str
  dfl : List D
  ml : List (Nat × Nat)
  d : He.DefD
  bd : CallF → SM
noncomputable def callD (fs : List PD) : Nat → CallF
  | 0 => fun _ _ _ => .stuck
  | n + 1 => fun k ds m => match fs[k]? with
    | some f => fin (f.bd (callD fs n) (startE f.N.length ds) m)
    | none => .stuck
def sgOf : Nat → List PD → List (Nat × Nat × List D)
  | _, [] => []
  | i, p :: ps => (i, p.np, p.dfl) :: sgOf (i + 1) ps
theorem sgOf_at {k np : Nat} {dfl : List D} : ∀ {fs : List PD} {i : Nat}, (sgOf i fs).lookup k = some (np, dfl) → ∃ p, fs[k - i]? = some p ∧ i ≤ k ∧ p.np = np ∧ p.dfl = dfl
  | [], _, h => by cases h
  | p :: ps, i, h => by
    unfold sgOf at h
    rw [List.lookup_cons] at h
    cases hb : (k == i) with
    | true =>
      rw [hb] at h; cases h
      have e : k = i := by simpa using hb
      subst e
      exact ⟨p, by simp, Nat.le_refl _, rfl, rfl⟩
    | false =>
      rw [hb] at h
      obtain ⟨q, h1, h2, h3, h4⟩ := sgOf_at h
      refine ⟨q, ?_, by omega, h3, h4⟩
      have : k - i = (k - (i + 1)) + 1 := by omega
      rw [this, List.getElem?_cons_succ]; exact h1
/-- the text's names, and its exception classes: how they are made, what they are -/
structure Tx where
  gl : List (Str × D)
  no : List Str
  xc : List (Nat × XC) := []
  isa : Isa := fun _ _ => none
  kd : List (Str × List (Str × D)) := []
def tcOf (fs : List PD) (tx : Tx) (p : PD) (call : CallF) : TC := ⟨p.N, tx.gl, tx.no, call, sgOf 0 fs, p.ml, tx.xc, tx.isa, tx.kd⟩
/-- a def's body is that action -/
def TrD (fs : List PD) (tx : Tx) (p : PD) : Prop := ∀ call, ∃ n1 n2, trS (tcOf fs tx p call) (tr (tcOf fs tx p call) n1) n2 ⟨p.d.scope, fun _ => true, none, true⟩ p.d.body = some (p.bd call)
/-- how a def stands behind the top -/
structure DefOk (G : Gx) (K : PySem.W.Frag) (p : PD) (f : Addr) : Prop where
  ex : ∃ (fd : FuncData) (ps : List Str) (dvs : List V), FunD K p.d.name p.d.qual p.d.params p.d.body p.d.scope dvs [] f fd ∧ FnScope p.N ps p.d.scope ∧ ps.length = p.np ∧
    ∀ j, j ≤ p.dfl.length → ∃ (ds : List Value) (ws : List V), Binds K fd ps ds ∧ Vals ws ds ∧ ∀ t H, RDs G t H (p.dfl.drop j) ws
section
variable {P : Program} {w : World} {K : PySem.W.Frag} {mg : Str → Option Value} {base : Heap} {G : Gx} {fs : List PD} {tx : Tx}
theorem lvl (hG : G.K = K) (hj : ∀ s t H, G.J s t H) (hfr : ∀ i, G.fr i = true) (hgl : ∀ x d, tx.gl.lookup x = some d → ∃ (v : V) (u : Value), mg x = some u ∧ RelV v u ∧ ∀ t H, RD G t H d v) (hno : ∀ x, x ∈ tx.no → mg x = none)
    (hxc : ∀ k c, tx.xc.lookup k = some c → XcOk P w K mg base G.ca k c) (hisa : IsaOk K G.ca tx.isa) (hkd : ∀ x kvs, tx.kd.lookup x = some kvs → ∃ p, mg x = some (.ref p) ∧ ∀ z d, kvs.lookup z = some d → ∃ v, KDct K w p z v ∧ ∀ t H, RD G t H d v)
    (hd : ∀ (k : Nat) (p : PD), fs[k]? = some p → ∃ f, G.fa k = some f ∧ DefOk G K p f) (ht : ∀ (k : Nat) (p : PD), fs[k]? = some p → TrD fs tx p) :
    ∀ (n k : Nat) (p : PD), fs[k]? = some p → ∀ (f : Addr) (fd : FuncData) (ps : List Str) (dvs : List V), FunD K p.d.name p.d.qual p.d.params p.d.body p.d.scope dvs [] f fd → FnScope p.N ps p.d.scope → ps.length = p.np →
      FnG P w K mg base (n + 3) f fd ps (spG G (callD fs n) k p.np)
  | 0, k, p, hk, f, fd, ps, dvs, F, S, hl => by
    refine ⟨fun vs H Q E h => by rw [hl]; exact h.1, fun A out s H args us vs Q E _ _ _ _ _ h => ?_⟩
    obtain ⟨_, ds, μ, t, _, _, kk⟩ := h
    exact kk.elim
  | n + 1, k, p, hk, f, fd, ps, dvs, F, S, hl => by
    obtain ⟨oc, od, dV, kV, doc, pm, an, cdv, ct, osl, rfl, lk, hcd, hD, hK⟩ := F.ex
    obtain ⟨n1, n2, htr⟩ := ht k p hk (callD fs n)
    rw [← hl]
    rw [show n + 1 + 3 = (n + 3) + 1 by omega]
    refine fn_sm (sm := p.bd (callD fs n)) hj lk hcd S (fun ds m => ?_) fun A out s H E room gd => ?_
    · show (match fs[k]? with
        | some f => fin (f.bd (callD fs n) (startE f.N.length ds) m)
        | none => R.stuck) = _
      rw [hk]
    · refine (trS_ok (tr_ok n1) n2).ex G _ _ _ htr _ _ ⟨rfl, S.nd, rfl, fun _ _ => rfl, hG, fun _ => rfl, fun _ => rfl, fun i _ => hfr i, (fun n i k fs h => nomatch h), fun _ => room.mono (by omega), hxc, hisa, ?_, gd, hgl, hno, fun _ k2 np dfl h2 => ?_, takes_cx rfl, hkd⟩ ⟨rfl, rfl⟩ owns_cx
      · have := room.un
        show (A.deeper _).units + 100 < cLine
        omega
      · obtain ⟨q, h3, _, rfl, rfl⟩ := sgOf_at h2
        have h3 : fs[k2]? = some q := by simpa using h3
        obtain ⟨f2, e1, D2⟩ := hd k2 q h3
        obtain ⟨fd2, ps2, dvs2, F2, S2, l2, b2⟩ := D2.ex
        exact ⟨f2, fd2, ps2, n + 3, e1, F2.kp, room, lvl hG hj hfr hgl hno hxc hisa hkd hd ht n k2 q h3 f2 fd2 ps2 dvs2 F2 S2 l2, b2⟩
end

/-! ### the law's end -/
theorem law_go {P : Program} {w : World} {K : PySem.W.Frag} {mg mb : Str → Option Value} {k : Nat} {fa a : Addr} {fd : FuncData} {ps : List Str} {sp : Sp} {s1 : Shared} {vs : List Value} {ns : List Int}
    (inK : K.In s1.heap) (nsG : s1.heap.Ns mainGlobals mg) (nsB : s1.heap.Ns builtinsNs mb) (hbb : ∀ z : Str, z ≠ "__name__" → mb z = bootBuiltins z) (noL : s1.heap.NoLimit) (hg : s1.gens = #[])
    (ha : s1.heap.get? a = some { cls := .type "list", data := .seq vs.toArray }) (hi : IntsAre vs ns) (hl : ns.length ≤ sizeLine) (room : Room k callerA) (out : K.lookup a = none)
    (F : ∀ base : Heap, K.In base → base.Ns mainGlobals mg → FnG P w K mg base k fa fd ps sp) (hbind : BindsTo s1 fd ⟨[.ref a], []⟩ (ps.zip [.ref a]))
    (hsp : ∀ H : Hp, (∀ b, H b ≠ none → b = a) → SqF H a (ns.map V.int) → sp [.ref a] H (fun v _ => v = .bl true) fun _ _ _ => False) :
    codeAny (model P w) callerA (.call (.ref fa) ⟨[.ref a], []⟩) (fun r s2 => r = .ok (.ret (.bool true)) ∧ OldK s1.heap s2.heap ∧ s2.os = s1.os ∧ AllBare s2.gens) s1 := by
  have rv := vals_ints hi
  have nv := hi.length
  let O : Obj := { cls := .type "list", data := .seq vs.toArray }
  let H : Hp := fun b => if b = a then some (.frz O (.lst (ns.map V.int))) else none
  have Hself : H a = some (.frz O (.lst (ns.map V.int))) := if_pos rfl
  have Hoff : ∀ {b}, b ≠ a → H b = none := fun h => if_neg h
  have only : ∀ b, H b ≠ none → b = a := fun b z => by
    by_cases e : b = a
    · exact e
    · exact absurd (Hoff e) z
  have down : ∀ {b : Addr} {o : Obj}, s1.heap.get? b = some o → b ≠ a → (hidT s1.heap H).get? b = some o := fun e n => hidT_get e (Hoff n)
  have dn : ∀ {b : Addr} {o : Obj} {es : Array DictEntry} {ep : Nat}, s1.heap.get? b = some o → o.data = .dict es ep → b ≠ a := fun {b o es ep} e d z => by
    subst z; rw [ha] at e; cases e
    exact absurd (show Data.seq vs.toArray _ = Data.dict es ep from d) (fun z => by cases z)
  have nsD : ∀ {b : Addr} {m : Str → Option Value}, s1.heap.Ns b m → (hidT s1.heap H).Ns b m := fun ⟨o, es, ep, e, d, r⟩ => ⟨o, es, ep, down e (dn e d), d, r⟩
  have inB : K.In (hidT s1.heap H) := fun b o e => down (inK b o e) fun z => by subst z; rw [out] at e; cases e
  have mod : Mod K mg (hidT s1.heap H) := ⟨inB, nsD nsG, ⟨mb, nsD nsB, hbb⟩, let ⟨mc, z1, z2⟩ := noL; ⟨mc, nsD z1, z2⟩⟩
  have hok : HOk P w H s1.heap := fun b u z => by
    by_cases e : b = a
    · subst e
      rw [Hself] at z; cases z
      exact ⟨ha, by rw [List.length_map]; exact hl, vs, _, rv, ha⟩
    · rw [Hoff e] at z; cases z
  have env0 : Env0 P w K mg (hidT s1.heap H) callerA [] s1 H := ⟨rfl, mod, fun b o e => of_hidT e, Nat.le_of_eq (hidT_size _ _), trivial, fun b z => absurd (show b ∈ ([] : List Addr) from z) (by simp), hok, .of_eq hg⟩
  refine codeAny_mono ((F _ inB (nsD nsG)).go callerA [] s1 H ⟨[.ref a], []⟩ [.ref a] [.ref a] _ _ room rfl env0 hbind (.cons rfl .nil) (hsp H only ⟨O, Hself⟩)) fun r s2 hr => ?_
  match r, hr with
  | .error e, hr =>
    obtain ⟨_, _, _, _, _, _, _, _, _, _, _, _, z⟩ := hr
    exact z.elim
  | .ok .next, hr => exact False.elim hr
  | .ok .brk, hr => exact False.elim hr
  | .ok .cont, hr => exact False.elim hr
  | .ok (.ret u), hr =>
    obtain ⟨v, H2, os, bare, un, ok2, rl, q⟩ := hr
    have q : v = .bl true := q
    subst q
    obtain rfl : u = Value.bool true := rl
    refine ⟨rfl, OldK.of_keep fun b o e => ?_, os, bare⟩
    by_cases z : b = a
    · subst z
      obtain ⟨e2, _⟩ := ok2 b _ (un.frzs b _ _ Hself)
      rw [ha] at e; cases e
      exact e2
    · exact un.keep b o e (Hoff z) (by intro y; exact absurd (show b ∈ ([] : List Addr) from y) (by simp)) (by simp)

/-! ### what the head tells -/
mutual
def rdB (K : PySem.W.Frag) (fa ca : Nat → Option Addr) : D → Value → Bool
  | .non, .none => true
  | .bl b, .bool c => decide (b = c)
  | .int i, .int j _ => decide (i = j)
  | .str x, .str y _ => decide (x = y)
  | .ty n, .type m => decide (n = m)
  | .fn k, .ref a => decide (fa k = some a)
  | .cls k, .ref a => decide (ca k = some a)
  | .tup ds, .ref a => (match K.lookup a with
    | some ⟨.type c, _, .seq its _, _⟩ => decide (c = "tuple") && decide (its.size ≤ sizeLine) && rdsB K fa ca ds its.toList
    | _ => false)
  | _, _ => false
def rdsB (K : PySem.W.Frag) (fa ca : Nat → Option Addr) : List D → List Value → Bool
  | [], [] => true
  | d :: ds, u :: us => rdB K fa ca d u && rdsB K fa ca ds us
  | _, _ => false
end
section
variable {K : PySem.W.Frag} {fa ca : Nat → Option Addr}
mutual
theorem rdB_ok : ∀ {d : D} {u : Value}, rdB K fa ca d u = true → ∃ v, RelV v u ∧ ∀ t H, RD { K := K, fa := fa, ca := ca } t H d v := fun {d u} h => by
  match d, u, h with
  | .non, .none, _ => exact ⟨.non, rfl, fun _ _ => .non⟩
  | .bl b, .bool c, h =>
    unfold rdB at h
    have := of_decide_eq_true h; subst this
    exact ⟨.bl b, rfl, fun _ _ => .bl b⟩
  | .int i, .int j k, h =>
    unfold rdB at h
    have := of_decide_eq_true h; subst this
    exact ⟨.int i, ⟨k, rfl⟩, fun _ _ => .int i⟩
  | .str x, .str y k, h =>
    unfold rdB at h
    have := of_decide_eq_true h; subst this
    exact ⟨.str x, ⟨k, rfl⟩, fun _ _ => .str x⟩
  | .ty n, .type m, h =>
    unfold rdB at h
    have := of_decide_eq_true h; subst this
    exact ⟨.ty n, rfl, fun _ _ => .ty n⟩
  | .fn k, .ref a, h =>
    unfold rdB at h
    exact ⟨.ref a, rfl, fun _ _ => .fn (of_decide_eq_true h)⟩
  | .cls k, .ref a, h =>
    unfold rdB at h
    exact ⟨.ref a, rfl, fun _ _ => .cls (of_decide_eq_true h)⟩
  | .tup ds, .ref a, h =>
    unfold rdB at h
    split at h
    · rename_i c od its n osl e
      simp only [Bool.and_eq_true, decide_eq_true_eq] at h
      obtain ⟨⟨h1, h2⟩, h3⟩ := h
      obtain ⟨vs, rv, rd⟩ := rdsB_ok h3
      exact ⟨.ref a, rfl, fun t H => .tup (.inr ⟨_, its, n, e, congrArg Value.type h1, rfl, h2, rv⟩) (rd t H)⟩
    · cases h
theorem rdsB_ok : ∀ {ds : List D} {us : List Value}, rdsB K fa ca ds us = true → ∃ vs, Vals vs us ∧ ∀ t H, RDs { K := K, fa := fa, ca := ca } t H ds vs := fun {ds us} h => by
  match ds, us, h with
  | [], [], _ => exact ⟨[], .nil, fun _ _ => .nil⟩
  | d :: ds, u :: us, h =>
    unfold rdsB at h
    rw [Bool.and_eq_true] at h
    obtain ⟨v, a1, a2⟩ := rdB_ok h.1
    obtain ⟨vs, b1, b2⟩ := rdsB_ok h.2
    exact ⟨v :: vs, .cons a1 b1, fun t H => .cons (a2 t H) (b2 t H)⟩
end
end
def isIntV : Value → Bool
  | .int _ _ => true
  | _ => false
def noInts (o : Obj) : Bool := match o.cls, o.data with
  | .type c, .seq its _ => !(decide (c = "list") && its.toList.all isIntV)
  | _, _ => true
def nmB (K : PySem.W.Frag) (fa ca : Nat → Option Addr) (p : Str × D) : Bool := match PySem.W.nsIn K mainGlobals p.1 with
  | some (some u) => rdB K fa ca p.2 u
  | _ => false
def abB (K : PySem.W.Frag) (x : Str) : Bool := match PySem.W.nsIn K mainGlobals x with
  | some none => true
  | _ => false
def faOf (nms : List Str) (K : PySem.W.Frag) : Nat → Option Addr := fun k => (nms[k]?).map (He.ga K)
def gOf (nms cs : List Str) (K : PySem.W.Frag) : Gx := { K := K, fa := faOf nms K, ca := faOf cs K }
def chkB (nms cs : List Str) (gl : List (Str × D)) (no : List Str) (K : PySem.W.Frag) : Bool :=
  gl.all (nmB K (faOf nms K) (faOf cs K)) && no.all (abB K) && K.all fun p => noInts p.2
theorem mem_look {α : Type} {a : Nat} {o : α} : ∀ {l : List (Nat × α)}, l.lookup a = some o → (a, o) ∈ l
  | [], e => by cases e
  | (b, u) :: r, e => by
    rw [List.lookup_cons] at e
    cases q : (a == b) with
    | true =>
      rw [q] at e; cases e
      have : a = b := by simpa using q
      rw [this]; exact List.mem_cons_self
    | false => rw [q] at e; exact List.mem_cons_of_mem _ (mem_look e)
/-! exception classes -/
def xbOf : Nat → XB
  | 0 => xbV
  | 1 => xbI
  | 2 => xbO
  | 3 => xbR
  | _ => xbZ
theorem xbOf_ok : ∀ b, XBok (xbOf b)
  | 0 => xbV_ok
  | 1 => xbI_ok
  | 2 => xbO_ok
  | 3 => xbR_ok
  | _ + 4 => xbZ_ok
/-- an exception class of the text: its number, how it is made, its built-in base, by which name __init__ calls its base (a class of the text | built-in), its __init__ -/
structure XI where
  k : Nat
  c : XC
  b : Nat
  bn : Str := ""
  bo : Option Nat := none
  d : He.DefD := ⟨("", none), "", "", default, [], default, [], []⟩
def kindB (K : PySem.W.Frag) (C : Addr) : Bool := PySem.W.keepIn K (.ref C) && decide (PySem.W.subIn K (.ref C) (.type "BaseException") = some true) && decide (PySem.W.typeIn K (.ref C) = some (.type "type"))
def excB (K : PySem.W.Frag) (C : Addr) : Bool := (PySem.W.clsIn K C).isSome && decide (PySem.W.findIn K (.ref C) "__getattribute__" = some (some (.builtin "BaseException.__getattribute__"))) && decide (PySem.W.findIn K (.ref C) "__getattr__" = some none) &&
  decide (PySem.W.subIn K (.ref C) (.type "BaseException") = some true) && PySem.W.hasDictIn K C && decide (PySem.W.findIn K (.ref C) "__class__" = some (some (.builtin "object.__class__"))) &&
  decide (PySem.W.specialIn K (.builtin "object.__class__") "__get__" = some (some (.builtin "getset_descriptor.__get__"))) && decide (PySem.W.takesIn K (.builtin "object.__class__") = some true) && decide (PySem.W.mroIn K C (.type "object") = some true)
def fcB (o : Option PySem.W.CFound) (n : String) : Bool := match o with
  | some (.val (.builtin m)) => decide (m = n)
  | _ => false
theorem fcB_ok {o : Option PySem.W.CFound} {n : String} (h : fcB o n = true) : o = some (.val (.builtin n)) := by
  unfold fcB at h
  split at h
  · rw [of_decide_eq_true h]
  · cases h
def viaB (K : PySem.W.Frag) (ca : Nat → Option Addr) (x : XI) : Bool := match x.bo with
  | none => fcB (PySem.W.findCls K (.type (xbOf x.b).name) (.type "type") "__init__") (xbOf x.b).initId
  | some j => (match ca j with
    | some CB => PySem.W.readsIn K CB (.type "type") && decide (PySem.W.specialIn K (.ref CB) "__getattribute__" = some (some (.builtin "type.__getattribute__"))) && fcB (PySem.W.findCls K (.ref CB) (.type "type") "__init__") (xbOf x.b).initId
    | none => false)
def xiB (K : PySem.W.Frag) (ca : Nat → Option Addr) (x : XI) : Bool := match ca x.k with
  | none => false
  | some C => kindB K C && (match x.c with
    | .plain => PySem.W.excIn K C (xbOf x.b).tail (xbOf x.b).newId
    | .own fs => PySem.W.excInitIn K C (xbOf x.b).tail (xbOf x.b).newId && excB K C && decide (PySem.W.findIn K (.ref C) "__setattr__" = some (some (.builtin "object.__setattr__"))) && decide (PySem.W.findIn K (.ref C) "__init__" = some (some (.ref (He.fAd K x.d.at_)))) &&
      decide (PySem.W.typeIn K (.ref (He.fAd K x.d.at_)) = some (.type "function")) && fs.all (fun f => decide (PySem.W.findIn K (.ref C) f = some none)) && viaB K ca x)
def isaB (K : PySem.W.Frag) (ca : Nat → Option Addr) (al : List CK) (p : Nat × List CK) : Bool := match ca p.1 with
  | none => false
  | some C => excB K C && al.all fun c => (match ckU ca c with
    | none => false
    | some cv => decide (PySem.W.kitOne K (.ref C) cv = some (decide (c ∈ p.2))) && decide (PySem.W.exmOne K (.ref C) cv = some (decide (c ∈ p.2))))
def isaOf (al : List CK) (xm : List (Nat × List CK)) : Isa := fun k c => if c ∈ al then (xm.lookup k).map fun l => decide (c ∈ l) else none
/-! dicts of the top -/
def kdAt (K : PySem.W.Frag) (x : Str) : Addr := match PySem.W.nsIn K mainGlobals x with
  | some (some (.ref p)) => p
  | _ => 0
def kdB (K : PySem.W.Frag) (fa ca : Nat → Option Addr) (q : Str × List (Str × D)) : Bool := match PySem.W.nsIn K mainGlobals q.1 with
  | some (some (.ref p)) => q.2.all fun e => (match PySem.W.nsIn K p e.1 with
    | some (some u) => rdB K fa ca e.2 u
    | _ => false)
  | _ => false
abbrev TabO : Type := List (Option (List (Option (Str × Int))))
def tabO (kd : List (Str × List (Str × D))) (K : PySem.W.Frag) : TabO := kd.map fun q => He.dicW K (kdAt K q.1)
def tabV (kd : List (Str × List (Str × D))) (w : World) : TabO := kd.map fun q => some (He.keysIn w.params (q.2.map (·.1)))
def chkX (nms cs : List Str) (gl : List (Str × D)) (no : List Str) (xi : List XI) (al : List CK) (xm : List (Nat × List CK)) (kd : List (Str × List (Str × D))) (K : PySem.W.Frag) : Bool :=
  chkB nms cs gl no K && xi.all (xiB K (faOf cs K)) && xm.all (isaB K (faOf cs K) al) && kd.all (kdB K (faOf nms K) (faOf cs K))
def xcOf (xi : List XI) : List (Nat × XC) := xi.map fun x => (x.k, x.c)
theorem excB_ok {K : PySem.W.Frag} {C : Addr} (h : excB K C = true) : ExC K C := by
  simp only [excB, Bool.and_eq_true, decide_eq_true_eq] at h
  obtain ⟨⟨⟨⟨⟨⟨⟨⟨h1, h2⟩, h3⟩, h4⟩, h5⟩, h6⟩, h7⟩, h8⟩, h9⟩ := h
  exact ⟨h1, h2, h3, h4, h5, h6, h7, h8, h9⟩
theorem isaB_ok {K : PySem.W.Frag} {ca : Nat → Option Addr} {al : List CK} {xm : List (Nat × List CK)} (h : xm.all (isaB K ca al) = true) : IsaOk K ca (isaOf al xm) := fun k c b e => by
  unfold isaOf at e
  split at e
  rotate_left
  · cases e
  rename_i hc
  obtain ⟨l, hl, rfl⟩ := Option.map_eq_some_iff.mp e
  have q := List.all_eq_true.mp h _ (mem_look hl)
  unfold isaB at q
  split at q
  · cases q
  · rename_i C hC
    rw [Bool.and_eq_true, List.all_eq_true] at q
    have z := q.2 c hc
    split at z
    · cases z
    · rename_i cv hcv
      simp only [Bool.and_eq_true, decide_eq_true_eq] at z
      exact ⟨C, cv, hC, excB_ok q.1, hcv, z.1, z.2⟩
/-- what is to be seen in the text itself -/
structure XsOk (fn : List He.DefD) (gl : List (Str × D)) (no : List Str) (x : XI) (f : Str) (fs : List Str) : Prop where
  at_ : ∃ i : Nat, fn[i]? = some x.d
  nm : x.d.name = "__init__"
  df : x.d.dfl = []
  kw : x.d.kwd = []
  sc : FnScope ("self" :: f :: fs) ("self" :: f :: fs) x.d.scope
  bl : x.d.scope.names.lookup x.bn = some .globalImplicit
  bd : (x.bn == ("__debug__" : Str)) = false
  bm : x.bn ≠ "__name__"
  via : match x.bo with
    | none => x.bn ∈ no ∧ bootBuiltins x.bn = some (.type (xbOf x.b).name)
    | some j => gl.lookup x.bn = some (.cls j)
  ini : initB x.bn (f :: fs) x.d.body = true
  loc : locsB x.d.scope ("self" :: f :: fs) = true
  few : fs.length ≤ 800
  bind : ∀ (kV doc pm : Value) (an : Option Addr) (cdv ct : Value) (us : List Value), us.length = ("self" :: f :: fs : List Str).length → bindArgs (PySem.W.fnOf x.d.name x.d.qual x.d.params x.d.body x.d.scope .none kV doc pm an cdv ct) ⟨us, []⟩ = pure (("self" :: f :: fs : List Str).zip us)
def obsX (chk : PySem.W.Frag → Bool) (fn : List He.DefD) (K : PySem.W.Frag) : He.AlD := (chk K && fn.all fun z => z.ok K, fn.map fun z => He.fnW K z.at_)
def TellsX (chk : PySem.W.Frag → Bool) (fn : List He.DefD) (K : PySem.W.Frag) : Prop := obsX chk fn K = He.valD fn
def asX (g : Addr → Option Obj) : Nat → List Addr
  | 0 => [mainGlobals, PySem.cStatics]
  | n + 1 => He.growD g (asX g n)
def obsXG (n : Nat) (chk : PySem.W.Frag → Bool) (fn : List He.DefD) (g : Addr → Option Obj) : He.AlD := obsX chk fn (He.frG g (asX g n))
def obsXT (n : Nat) (chk : PySem.W.Frag → Bool) (fn : List He.DefD) (kd : List (Str × List (Str × D))) (g : Addr → Option Obj) : He.AlD × TabO := (obsXG n chk fn g, tabO kd (He.frG g (asX g n)))
def hookX (n : Nat) (chk : PySem.W.Frag → Bool) (fn : List He.DefD) (kd : List (Str × List (Str × D))) : PySem.W.Hook where
  α := He.AlD × TabO
  obs s := obsXT n chk fn kd s.heap.get?
  val w := (He.valD fn, tabV kd w)
  says w h := ∃ K : PySem.W.Frag, K.In h ∧ TellsX chk fn K ∧ tabO kd K = tabV kd w
  of _ _ e := ⟨_, He.frG_in, congrArg Prod.fst e, congrArg Prod.snd e⟩
  keeps _ _ _ z k := let ⟨K, hK, c⟩ := z; ⟨K, PySem.W.Frag.In.keeps hK k, c⟩
theorem obsXG_eq {n : Nat} {chk : PySem.W.Frag → Bool} {fn : List He.DefD} {kd : List (Str × List (Str × D))} {g : Addr → Option Obj} {s : Shared} (h : ∀ a, g a = s.heap.get? a) : obsXT n chk fn kd g = (hookX n chk fn kd).obs s := by
  obtain rfl : g = s.heap.get? := funext h
  rfl
section
variable {K : PySem.W.Frag} {chk : PySem.W.Frag → Bool} {fn : List He.DefD} {nms cs : List Str} {gl : List (Str × D)} {no : List Str} {h : Heap} {mg : Str → Option Value}
theorem TellsX.chk_ (c : TellsX chk fn K) : chk K = true := (Bool.and_eq_true_iff.mp (congrArg Prod.fst c)).1
theorem TellsX.def_ (c : TellsX chk fn K) {i : Nat} {z : He.DefD} (hz : fn[i]? = some z) : ∃ fd, FunD K z.name z.qual z.params z.body z.scope (z.dvs K) (z.kws K) (He.fAd K z.at_) fd := by
  have c1 := (Bool.and_eq_true_iff.mp (congrArg Prod.fst c)).2
  have c2 := congrArg (fun q : He.AlD => q.2[i]?) c
  have c3 : (fn.map fun z => He.fnW K z.at_)[i]? = (fn.map He.DefD.val)[i]? := c2
  rw [List.getElem?_map, List.getElem?_map, hz] at c3
  exact He.DefD.funD (Option.some.inj c3) (List.all_eq_true.mp c1 z (List.mem_of_getElem? hz))
theorem chk_gl (X : K.In h) (N : h.Ns mainGlobals mg) (c : chkB nms cs gl no K = true) {x : Str} {d : D} (e : gl.lookup x = some d) : ∃ (v : V) (u : Value), mg x = some u ∧ RelV v u ∧ ∀ t H, RD (gOf nms cs K) t H d v := by
  unfold chkB at c
  simp only [Bool.and_eq_true, List.all_eq_true] at c
  have q := c.1.1 _ (PySem.mem_of_lookup e)
  unfold nmB at q
  split at q
  · rename_i u e2
    obtain ⟨v, a, b⟩ := rdB_ok q
    exact ⟨v, u, PySem.W.mg_of X N e2, a, b⟩
  · cases q
theorem chk_no (X : K.In h) (N : h.Ns mainGlobals mg) (c : chkB nms cs gl no K = true) {x : Str} (e : x ∈ no) : mg x = none := by
  unfold chkB at c
  simp only [Bool.and_eq_true, List.all_eq_true] at c
  have q := c.1.2 _ e
  unfold abB at q
  split at q
  · rename_i e2; exact PySem.W.mg_none_of X N e2
  · cases q
theorem kd_ok {w : World} {kd : List (Str × List (Str × D))} (X : K.In h) (N : h.Ns mainGlobals mg) (c : kd.all (kdB K (faOf nms K) (faOf cs K)) = true) (tb : tabO kd K = tabV kd w) {x : Str} {kvs : List (Str × D)} (e : kd.lookup x = some kvs) :
    ∃ p, mg x = some (.ref p) ∧ ∀ z d, kvs.lookup z = some d → ∃ v, KDct K w p z v ∧ ∀ t H, RD (gOf nms cs K) t H d v := by
  have hm := PySem.mem_of_lookup e
  have q := List.all_eq_true.mp c _ hm
  have q2 : He.dicW K (kdAt K x) = some (He.keysIn w.params (kvs.map (·.1))) := List.map_inj_left.mp tb _ hm
  unfold kdB at q
  split at q
  · rename_i p e1
    have ek : kdAt K x = p := by
      unfold kdAt
      have e1 : PySem.W.nsIn K mainGlobals x = some (some (.ref p)) := e1
      rw [e1]
    rw [ek] at q2
    obtain ⟨es, n, h1, h2, h3⟩ := He.dicW_ok q2
    refine ⟨p, PySem.W.mg_of X N e1, fun z d hz => ?_⟩
    have q3 := List.all_eq_true.mp q _ (PySem.mem_of_lookup hz)
    split at q3
    · rename_i u e2
      obtain ⟨v, a, b⟩ := rdB_ok q3
      exact ⟨v, ⟨es, n, u, h1, h2, e2, a⟩, b⟩
    · cases q3
  · cases q
theorem ints_all : ∀ {vs : List Value} {ns : List Int}, IntsAre vs ns → vs.all isIntV = true
  | _, _, .nil => rfl
  | _, _, .cons _ _ z => by rw [List.all_cons, ints_all z]; rfl
theorem chk_out (c : chkB nms cs gl no K = true) {a : Addr} {vs : List Value} {ns : List Int} (X : K.In h) (ha : h.get? a = some { cls := .type "list", data := .seq vs.toArray }) (hi : IntsAre vs ns) : K.lookup a = none := by
  cases e : K.lookup a with
  | none => rfl
  | some o =>
    have em : (a, o) ∈ K := mem_look e
    have z := X a o e
    rw [ha] at z; cases z
    unfold chkB at c
    simp only [Bool.and_eq_true, List.all_eq_true] at c
    have q := c.2 _ em
    simp only [noInts] at q
    rw [ints_all hi] at q
    simp at q
end

section
variable {K : PySem.W.Frag} {fn : List He.DefD} {nms cs : List Str} {gl : List (Str × D)} {no : List Str} {h : Heap} {mg : Str → Option Value}
theorem init_cls {K : PySem.W.Frag} {C : Addr} {bmB : List Value} {newId : String} (q : PySem.W.excInitIn K C bmB newId = true) (hd : PySem.W.hasDictIn K C = true) :
    ∃ nm q N bs bm sn sub ab col dd k0 k1 k2 k3 k5, K.lookup C = some (excClassObj nm q C N bs bm true sn sub ab col dd k0 k1 k2 k3 k5 newId) ∧ PySem.W.excTail bmB bm = true := by
  unfold PySem.W.excInitIn at q
  split at q
  · rename_i dd cd sl ho
    unfold PySem.W.hasDictIn PySem.W.clsIn at hd
    rw [ho] at hd
    split at q
    · rename_i C' bm k0 k1 k2 k3 n k5 hm hs
      simp only [Bool.and_eq_true, beq_iff_eq, Bool.not_eq_true'] at q
      obtain ⟨⟨⟨rfl, rfl⟩, hdel⟩, ht⟩ := q
      obtain ⟨nm, bs, mro, ns, qn, hdd, sn, sub, ab, col, del⟩ := cd
      dsimp only at hm hdel
      subst hm hdel
      have hsl : sl = #[k0, k1, k2, k3, some (.builtin n), k5] := by
        obtain ⟨l⟩ := sl
        simp only at hs
        rw [hs]
      subst hsl
      have hdt : hdd = true := by simpa using hd
      subst hdt
      exact ⟨nm, qn, ns, bs, bm, sn, sub, ab, col, dd, k0, k1, k2, k3, k5, ho, ht⟩
    · cases q
  · cases q
theorem xc_ok {P : Program} {w : World} {base : Heap} {xi : List XI} {al : List CK} {xm : List (Nat × List CK)} {kd : List (Str × List (Str × D))} (X : K.In h) (N : h.Ns mainGlobals mg) (c : TellsX (chkX nms cs gl no xi al xm kd) fn K) (hs : ∀ x ∈ xi, match x.c with
      | .plain => True
      | .own fs => ∃ f r, fs = f :: r ∧ XsOk fn gl no x f r) {k : Nat} {cc : XC} (hk : (xcOf xi).lookup k = some cc) : XcOk P w K mg base (gOf nms cs K).ca k cc := by
  have cB := c.chk_
  unfold chkX at cB
  rw [Bool.and_eq_true, Bool.and_eq_true, Bool.and_eq_true] at cB
  obtain ⟨⟨⟨cG, cX⟩, _⟩, _⟩ := cB
  obtain ⟨x, hx, he⟩ := List.mem_map.mp (mem_look hk)
  obtain ⟨b, cc2, bb, bn, bo, d⟩ := x
  dsimp only at he
  injection he with e1 e2
  subst e1 e2
  have q := List.all_eq_true.mp cX _ hx
  have hst := hs _ hx
  unfold xiB at q
  dsimp only at q hst
  split at q
  · cases q
  rename_i C hC
  rw [Bool.and_eq_true] at q
  obtain ⟨qk, q⟩ := q
  simp only [kindB, Bool.and_eq_true, decide_eq_true_eq] at qk
  obtain ⟨⟨kp, ex⟩, ty⟩ := qk
  cases cc2 with
  | plain => exact ⟨C, xbOf bb, hC, xbOf_ok bb, q, kp, ex, ty⟩
  | own fs =>
    obtain ⟨f, r, rfl, Z⟩ := hst
    simp only [Bool.and_eq_true, decide_eq_true_eq, List.all_eq_true] at q
    obtain ⟨⟨⟨⟨⟨⟨q1, q2⟩, q3⟩, q4⟩, q5⟩, q6⟩, q7⟩ := q
    have E := excB_ok q2
    obtain ⟨i, hi⟩ := Z.at_
    obtain ⟨fd, F⟩ := c.def_ hi
    have T : OexG K C (xbOf bb) := ⟨xbOf_ok bb, init_cls q1 E.hd, q3, ex, ty, kp⟩
    have F' : FunD K "__init__" d.qual d.params d.body d.scope [] [] (He.fAd K d.at_) fd := by
      have z := F
      have n1 := Z.nm
      have n2 : d.dvs K = [] := by unfold He.DefD.dvs; have := Z.df; dsimp only at this; rw [this]; rfl
      have n3 : d.kws K = [] := by unfold He.DefD.kws; have := Z.kw; dsimp only at this; rw [this]; rfl
      dsimp only at n1
      rw [n1, n2, n3] at z
      exact z
    refine ⟨C, He.fAd K d.at_, xbOf bb, fd, "self" :: f :: r, hC, T, q4, q5, q6, init_ok F' Z.sc (xbOf_ok bb) Z.bl Z.bd ?_ Z.ini Z.loc Z.few, F'.bindsN ?_, by have := Z.few; simp; omega, E⟩
    · have v := Z.via
      unfold viaB at q7
      dsimp only at v q7
      cases bo with
      | none =>
        dsimp only at v q7
        exact .inl ⟨chk_no X N cG v.1, Z.bm, v.2, fcB_ok q7⟩
      | some j =>
        dsimp only at v q7
        obtain ⟨vv, u, e1, e2, e3⟩ := chk_gl X N cG v
        have z := e3 [] (fun _ => none)
        cases z with
        | cls z =>
          obtain rfl : u = Value.ref _ := e2
          have z' : faOf cs K j = some _ := z
          rw [z'] at q7
          simp only [Bool.and_eq_true, decide_eq_true_eq] at q7
          exact .inr ⟨_, e1, q7.1.1, q7.1.2, fcB_ok q7.2⟩
    · have z := Z.bind
      have n1 := Z.nm
      dsimp only at z n1
      rw [n1] at z
      exact z
end

/-! ### defs -/
theorem defOk0 {K : PySem.W.Frag} {nms cs : List Str} {p : PD} {f : Addr} {fd : FuncData} (F : FunD K p.d.name p.d.qual p.d.params p.d.body p.d.scope [] [] f fd) (h0 : p.dfl = []) (ps : List Str) (S : FnScope p.N ps p.d.scope) (hl : ps.length = p.np)
    (hb : ∀ (kV doc pm : Value) (an : Option Addr) (cdv ct : Value) (us : List Value), us.length = ps.length → bindArgs (PySem.W.fnOf p.d.name p.d.qual p.d.params p.d.body p.d.scope .none kV doc pm an cdv ct) ⟨us, []⟩ = pure (ps.zip us)) : DefOk (gOf nms cs K) K p f :=
  ⟨fd, ps, [], F, S, hl, fun j hj => ⟨[], [], F.bindsN hb, .nil, fun t H => by rw [h0, List.drop_nil]; exact .nil⟩⟩
/-- default values that are plain -/
def dvD : He.Dv → D
  | .non => .non
  | .bl b => .bl b
  | .int i => .int i
  | .str x => .str x
  | _ => .non
def dvOk : He.Dv → Bool
  | .non => true
  | .bl _ => true
  | .int _ => true
  | .str _ => true
  | _ => false
theorem rds_dv {G : Gx} {K : PySem.W.Frag} {t : List Addr} {H : Hp} : ∀ {dv : List He.Dv}, dv.all dvOk = true → RDs G t H (dv.map dvD) (dv.map (He.Dv.v K))
  | [], _ => .nil
  | d :: dv, h => by
    rw [List.all_cons, Bool.and_eq_true] at h
    refine .cons ?_ (rds_dv h.2)
    cases d <;> first | exact .non | exact .bl _ | exact .int _ | exact .str _ | cases h.1
theorem defOk1 {K : PySem.W.Frag} {nms cs : List Str} {p : PD} {dv : List He.Dv} {f : Addr} {fd : FuncData} (F : FunD K p.d.name p.d.qual p.d.params p.d.body p.d.scope (dv.map (He.Dv.v K)) [] f fd) (hd : dv ≠ []) (hok : dv.all dvOk = true) (hdf : p.dfl = dv.map dvD) (ps : List Str) (S : FnScope p.N ps p.d.scope) (hl : ps.length = p.np) (hn : dv.length ≤ ps.length)
    (h : ∀ j, j ≤ dv.length → ∀ (T : Addr) (kV doc pm : Value) (an : Option Addr) (cdv ct : Value) (us its : List Value), us.length = ps.length - (dv.length - j) → its.length = dv.length →
      ∃ k, bindArgs (PySem.W.fnOf p.d.name p.d.qual p.d.params p.d.body p.d.scope (.ref T) kV doc pm an cdv ct) ⟨us, []⟩ = seqItems? (.ref T) >>= k ∧ k (some its.toArray) = pure (ps.zip (us ++ its.drop j))) : DefOk (gOf nms cs K) K p f := by
  refine ⟨fd, ps, _, F, S, hl, fun j hj => ?_⟩
  have hlen : (dv.map (He.Dv.v K)).length = dv.length := by simp
  have hj' : j ≤ dv.length := by rw [hdf] at hj; simpa using hj
  obtain ⟨ds, h1, h2⟩ := F.binds1 (ps := ps) (ps.length - (dv.length - j)) j (by simpa using hd) (by rw [hlen]; omega) (fun T kV doc pm an cdv ct us its l1 l2 => h j hj' T kV doc pm an cdv ct us its l1 (by rw [l2, hlen]))
  exact ⟨ds, _, h2, h1, fun t H => by rw [hdf]; exact (rds_dv hok).drop j⟩
theorem rds_ints {G : Gx} {t : List Addr} {H : Hp} : ∀ ns : List Int, RDs G t H (ns.map D.int) (ns.map V.int)
  | [] => .nil
  | n :: ns => .cons (.int n) (rds_ints ns)
/-- the law -/
theorem walk_di {l : PySem.W.OpenLaw} {n k : Nat} {q : Program} {loose : List Str} {XP : (Str → Option Value) → Heap → Prop} {d : DefRec} {nms cs : List Str} {gl : List (Str × D)} {no : List Str} {xi : List XI} {al : List CK} {xm : List (Nat × List CK)} {kd : List (Str × List (Str × D))} {fn : List He.DefD} {fs : List PD} {m kl : Nat} {pl : PD}
    (hn : l.most = some n) (hn2 : n ≤ sizeLine) (hdf : d.params.defaults = []) (room : Room (k + 3) callerA) (hx : gl.lookup d.name = some (.fn kl)) (hl : fs[kl]? = some pl) (hnp : pl.np = 1) (hpd : pl.dfl = [])
    (hs : ∀ x ∈ xi, match x.c with
      | .plain => True
      | .own fs => ∃ f r, fs = f :: r ∧ XsOk fn gl no x f r)
    (hd : ∀ (K : PySem.W.Frag), TellsX (chkX nms cs gl no xi al xm kd) fn K → ∀ (i : Nat) (p : PD), fs[i]? = some p → ∃ f, (gOf nms cs K).fa i = some f ∧ DefOk (gOf nms cs K) K p f)
    (ht : ∀ (i : Nat) (p : PD), fs[i]? = some p → TrD fs ⟨gl, no, xcOf xi, isaOf al xm, kd⟩ p)
    (run : ∀ ns : List Int, ns.length ≤ n → ∃ μ, callD fs k kl [.lst (ns.map D.int)] [] = .ok (.bl true) μ) :
    PySem.W.WalkO q loose XP (fun w h => (hookX m (chkX nms cs gl no xi al xm kd) fn kd).says w h) l.row.toRowW d [] (fun f vs => PySem.call f vs) := by
  refine Att.attach_call hn hdf fun w s0 s1 mg mb fa o pm cd doc a vs ns G Y ho hdd hcd hmg hobj hints hlen hg => ?_
  obtain ⟨K, inK, c, tb⟩ := Y
  have cB := c.chk_
  unfold chkX at cB
  rw [Bool.and_eq_true, Bool.and_eq_true, Bool.and_eq_true] at cB
  obtain ⟨⟨⟨cG, cX⟩, cI⟩, cK⟩ := cB
  obtain ⟨v, u, e1, e2, e3⟩ := chk_gl inK G.T.g cG hx
  obtain ⟨f, h1, D1⟩ := hd K c kl pl hl
  obtain ⟨fd, ps, dvs, F1, S1, hps, h4⟩ := D1.ex
  have hv : v = .ref f := by
    have z := e3 [] (fun _ => none)
    cases z with
    | fn z => rw [h1] at z; cases z; rfl
  subst hv
  obtain rfl : u = Value.ref f := e2
  rw [hmg] at e1
  cases e1
  obtain ⟨ds, ws, b1, b2, b3⟩ := h4 0 (Nat.zero_le _)
  have w0 : ws = [] := by
    have z := b3 [] (fun _ => none)
    rw [hpd] at z
    cases z with
    | nil => rfl
  subst w0
  cases b2
  obtain ⟨μ, hrun⟩ := run ns hlen
  refine law_go (k := k + 3) (ps := ps) (sp := spG (gOf nms cs K) (callD fs k) kl pl.np) inK G.T.g G.T.b G.T.builtins G.T.nolimit hg hobj hints (Nat.le_trans hlen hn2) room (chk_out cG inK hobj hints) (fun base kb nb => ?_) (by have z := b1 s1 [.ref a] inK (by rw [hps, hnp]; rfl); rw [List.append_nil] at z; exact z) fun H hO hS => ?_
  · exact lvl (P := l.prog) (w := w) (base := base) (mg := mg) (tx := ⟨gl, no, xcOf xi, isaOf al xm, kd⟩) (G := gOf nms cs K) rfl (fun _ _ _ => trivial) (fun _ => rfl) (fun x z hz => chk_gl inK G.T.g cG hz) (fun x hz => chk_no inK G.T.g cG hz) (fun kk cc hz => xc_ok inK G.T.g c hs hz) (isaB_ok cI) (fun x kvs hz => kd_ok inK G.T.g cK tb hz) (hd K c) ht k kl pl hl _ fd ps dvs F1 S1 hps
  · refine ⟨by rw [hnp]; rfl, [.lst (ns.map D.int)], [], [], ⟨rfl, fun l o z => by simp at z, fun b z => by simp at z, fun l l2 o o2 p z => by simp at z⟩, .cons (.lst hS (rds_ints ns)) .nil, ?_⟩
    rw [hrun]
    intro v H2 t2 _ _ r
    cases r
    rfl
end DI

set_option Elab.async false
set_option linter.all false
set_option maxRecDepth 100000
set_option maxHeartbeats 1000000
/-! DIN: reckoning with actions. -/
namespace DI
open PySem PySem.Spec L2
open PyProof.Rows hiding St

/-- a proof that is not told to be by rfl -/
theorem nr {α : Type _} {a b : α} (h : a = b) : a = b := h.trans rfl
section
variable {α β γ : Type}
@[simp] theorem bind_ok (a : α) (m : Sto) (f : α → Sto → R β) : (R.ok a m).bind f = f a m := nr rfl
@[simp] theorem bind_exc (k : Nat) (fs : List (Str × D)) (m : Sto) (f : α → Sto → R β) : (R.exc k fs m).bind f = .exc k fs m := nr rfl
@[simp] theorem bind_stuck (f : α → Sto → R β) : (R.stuck).bind f = .stuck := nr rfl
@[simp] theorem of_ok (r : Env) (a : α) (m : Sto) (f : α → Sto → RS) : RS.of r (R.ok a m) f = f a m := nr rfl
@[simp] theorem of_exc (r : Env) (k : Nat) (fs : List (Str × D)) (m : Sto) (f : α → Sto → RS) : RS.of r (R.exc k fs m) f = .exc k fs r m := nr rfl
@[simp] theorem of_stuck (r : Env) (f : α → Sto → RS) : RS.of r R.stuck f = .stuck := nr rfl
end
@[simp] theorem seq_nx (r : Env) (m : Sto) (f : Env → Sto → RS) : (RS.nx r m).seq f = f r m := nr rfl
@[simp] theorem seq_ret (d : D) (m : Sto) (f : Env → Sto → RS) : (RS.ret d m).seq f = .ret d m := nr rfl
@[simp] theorem seq_bk (r : Env) (m : Sto) (f : Env → Sto → RS) : (RS.bk r m).seq f = .bk r m := nr rfl
@[simp] theorem seq_ct (r : Env) (m : Sto) (f : Env → Sto → RS) : (RS.ct r m).seq f = .ct r m := nr rfl
@[simp] theorem seq_exc (k : Nat) (fs : List (Str × D)) (r : Env) (m : Sto) (f : Env → Sto → RS) : (RS.exc k fs r m).seq f = .exc k fs r m := nr rfl
@[simp] theorem seq_stuck (f : Env → Sto → RS) : RS.stuck.seq f = .stuck := nr rfl
@[simp] theorem fin_nx (r : Env) (m : Sto) : fin (.nx r m) = .ok .non m := nr rfl
@[simp] theorem fin_ret (d : D) (m : Sto) : fin (.ret d m) = .ok d m := nr rfl
@[simp] theorem fin_exc (k : Nat) (fs : List (Str × D)) (r : Env) (m : Sto) : fin (.exc k fs r m) = .exc k fs m := nr rfl

/-- ends of parts -/
def nxO (o : Option Env) (m : Sto) : RS := match o with
  | some r => .nx r m
  | none => .stuck
def stO (r : Env) (o : Option Sto) : RS := match o with
  | some m => .nx r m
  | none => .stuck
def vaO (o : Option (Option D)) (m : Sto) : R D := match o with
  | some (some d) => .ok d m
  | _ => .stuck
def tO {α : Type} (o : Option α) (m : Sto) : R α := match o with
  | some b => .ok b m
  | none => .stuck
@[simp] theorem nxO_some (r : Env) (m : Sto) : nxO (some r) m = .nx r m := nr rfl
@[simp] theorem stO_some (r : Env) (m : Sto) : stO r (some m) = .nx r m := nr rfl
@[simp] theorem vaO_some (d : D) (m : Sto) : vaO (some (some d)) m = .ok d m := nr rfl
@[simp] theorem tO_some {α : Type} (b : α) (m : Sto) : tO (some b) m = .ok b m := nr rfl
@[simp] theorem ofO_some {α : Type} (d : α) (m : Sto) : ofO (some (d, m)) = .ok d m := nr rfl

section
variable (a b c : M D) (p : P) (r : Env) (m : Sto) (s t : SM) (ms : M (List D)) (tt uu : M Bool)
@[simp] theorem z_seq : sSeq s t r m = (s r m).seq t := nr rfl
@[simp] theorem z_if : sIf tt s t r m = RS.of r (tt r m) fun k m1 => if k = true then s r m1 else t r m1 := nr rfl
@[simp] theorem z_asg : sAsg p a r m = RS.of r (a r m) fun d m1 => nxO (bindP p d r) m1 := nr rfl
@[simp] theorem z_ret : sRet a r m = RS.of r (a r m) fun d m1 => .ret d m1 := nr rfl
@[simp] theorem z_retN : sRetN r m = .ret .non m := nr rfl
@[simp] theorem z_drop : sDrop a r m = RS.of r (a r m) fun _ m1 => .nx r m1 := nr rfl
@[simp] theorem z_nx : sNx r m = .nx r m := nr rfl
@[simp] theorem z_bk : sBk r m = .bk r m := nr rfl
@[simp] theorem z_ct : sCt r m = .ct r m := nr rfl
@[simp] theorem z_setIx : sSetIx a b c r m = RS.of r (c r m) fun v m1 => RS.of r (a r m1) fun x m2 => RS.of r (b r m2) fun y m3 => stO r (setD x y v m3) := nr rfl
@[simp] theorem z_var (i : Nat) : mVar i r m = vaO (r[i]?) m := nr rfl
@[simp] theorem z_c (d : D) : mC d r m = .ok d m := nr rfl
@[simp] theorem z_ap1 (f : O1) : mAp1 f a r m = (a r m).bind fun x m1 => ofO (f x m1) := nr rfl
@[simp] theorem z_ap2 (f : O2) : mAp2 f a b r m = (a r m).bind fun x m1 => (b r m1).bind fun y m2 => ofO (f x y m2) := nr rfl
@[simp] theorem z_apN (f : ON) : mApN f ms r m = (ms r m).bind fun xs m1 => ofO (f xs m1) := nr rfl
@[simp] theorem z_nil : mNil r m = .ok [] m := nr rfl
@[simp] theorem z_cons : mCons a ms r m = (a r m).bind fun x m1 => (ms r m1).bind fun xs m2 => .ok (x :: xs) m2 := nr rfl
@[simp] theorem z_call (call : CallF) (k : Nat) (dfl : List D) : mCall call k ms dfl r m = (ms r m).bind fun xs m1 => call k (xs ++ dfl) m1 := nr rfl
@[simp] theorem z_tru : mTru a r m = (a r m).bind fun x m1 => tO (truO x m1) m1 := by
  unfold mTru
  congr 1
  funext x m1
  cases truO x m1 <;> rfl
@[simp] theorem z_cmpT (op : CmpOp) : mCmpT op a b r m = (a r m).bind fun x m1 => (b r m1).bind fun y m2 => tO (cmpB op x y) m2 := by
  unfold mCmpT
  congr 1
  funext x m1
  congr 1
  funext y m2
  cases cmpB op x y <;> rfl
@[simp] theorem z_notT : mNotT tt r m = (tt r m).bind fun b m1 => .ok (!b) m1 := nr rfl
@[simp] theorem z_andT : mAndT tt uu r m = (tt r m).bind fun b m1 => if b = true then uu r m1 else .ok false m1 := nr rfl
@[simp] theorem z_orT : mOrT tt uu r m = (tt r m).bind fun b m1 => if b = true then .ok true m1 else uu r m1 := nr rfl
@[simp] theorem z_ifE : mIf tt a b r m = (tt r m).bind fun c m1 => if c = true then a r m1 else b r m1 := nr rfl
theorem z_andV0 : mAndV a b r m = (a r m).bind fun x m1 => (tO (truO x m1) m1).bind fun k m2 => if k = true then b r m2 else .ok x m2 := by
  unfold mAndV
  congr 1
  funext x m1
  cases truO x m1 with
  | none => rfl
  | some k => cases k <;> rfl
@[simp] theorem z_andV : mAndV a b r m = (a r m).bind fun x m1 => (tO (truO x m1) m1).bind fun k m2 => if k = true then b r m2 else .ok x m2 := z_andV0 a b r m
@[simp] theorem z_orV : mOrV a b r m = (a r m).bind fun x m1 => (tO (truO x m1) m1).bind fun k m2 => if k = true then .ok x m2 else b r m2 := by
  unfold mOrV
  congr 1
  funext x m1
  cases truO x m1 with
  | none => rfl
  | some k => cases k <;> rfl
@[simp] theorem z_notV : mNotV a r m = (a r m).bind fun x m1 => (tO (truO x m1) m1).bind fun k m2 => .ok (.bl (!k)) m2 := by
  unfold mNotV
  congr 1
  funext x m1
  cases truO x m1 <;> rfl
@[simp] theorem z_itV : mItV a r m = (a r m).bind fun d m1 => tO (itV d m1) m1 := by
  unfold mItV
  congr 1
  funext x m1
  cases itV x m1 <;> rfl
@[simp] theorem z_itR : mItR ms r m = (ms r m).bind fun d m1 => tO (rngI d) m1 := by
  unfold mItR
  congr 1
  funext x m1
  cases rngI x <;> rfl
@[simp] theorem z_noP : mNoP r m = .ok none m := nr rfl
@[simp] theorem z_sl (lo hi : M (Option Int)) : mSl a lo hi r m = (a r m).bind fun x m1 => (lo r m1).bind fun l m2 => (hi r m2).bind fun h m3 => ofO (slO x l h m3) := nr rfl
def paO (x : D) (m : Sto) : R (Option Int) := match x with
  | .int i => .ok (some i) m
  | _ => .stuck
@[simp] theorem paO_int (i : Int) : paO (.int i) m = .ok (some i) m := nr rfl
@[simp] theorem z_part : mPart a r m = (a r m).bind fun x m1 => paO x m1 := by
  unfold mPart
  congr 1
@[simp] theorem z_app : mApp a ms r m = (a r m).bind fun x m1 => if isLst x m1 = true then (ms r m1).bind fun ds m2 => ofO (appO x ds m2) else .stuck := nr rfl
@[simp] theorem z_yes : mYes r m = .ok true m := nr rfl
@[simp] theorem z_for (mi : M ItD) : sFor mi p s r m = RS.of r (mi r m) fun it m1 => forL (Live it) p s it.items r m1 := nr rfl
@[simp] theorem z_lc (mi : M ItD) (own : List Nat) : mLc mi own p tt a r m = (mi r m).bind fun it m1 => lcL (Live it) p tt a (wipeE r own) it.items [] m1 := nr rfl
def okO (o : Option Bool) (m : Sto) : R Bool := tO o m
@[simp] theorem z_chainT (o1 o2 : CmpOp) : mChainT o1 o2 a b c r m = (a r m).bind fun x m1 => (b r m1).bind fun y m2 => (tO (cmpB o1 x y) m2).bind fun k m3 => if k = true then (c r m3).bind fun z m4 => tO (cmpB o2 y z) m4 else .ok false m3 := by
  unfold mChainT
  congr 1
  funext x m1
  congr 1
  funext y m2
  cases cmpB o1 x y with
  | none => rfl
  | some k =>
    cases k with
    | false => rfl
    | true =>
      show (c r m2).bind _ = (c r m2).bind _
      congr 1
      funext z m3
      cases cmpB o2 y z <;> rfl
@[simp] theorem z_chain (o1 o2 : CmpOp) : mChain o1 o2 a b c r m = (a r m).bind fun x m1 => (b r m1).bind fun y m2 => (tO (cmpB o1 x y) m2).bind fun k m3 => if k = true then (c r m3).bind fun z m4 => ofO (cmpS o2 y z m4) else .ok (.bl false) m3 := by
  unfold mChain
  congr 1
  funext x m1
  congr 1
  funext y m2
  cases cmpB o1 x y with
  | none => rfl
  | some k => cases k <;> rfl
@[simp] theorem z_mt (ok : D → Sto → Bool) (f : MO) : mMt ok f a ms r m = (a r m).bind fun x m1 => if ok x m1 = true then (ms r m1).bind fun ds m2 => ofO (f x ds m2) else .stuck := nr rfl
@[simp] theorem js_nil (acc : Str) : mJs [] acc r m = .ok (.str acc) m := nr rfl
def jsO (as : List (M D)) (acc : Str) (r : Env) (x : D) (m1 : Sto) : R D := match x with
    | .str y => if (acc ++ y).length ≤ lim then mJs as (acc ++ y) r m1 else .stuck
    | _ => .stuck
@[simp] theorem js_cons (as : List (M D)) (acc : Str) : mJs (a :: as) acc r m = (a r m).bind fun x m1 => jsO as acc r x m1 := nr rfl
@[simp] theorem jsO_str (as : List (M D)) (acc y : Str) (h : (acc ++ y).length ≤ 1000000) : jsO as acc r (.str y) m = mJs as (acc ++ y) r m := by
  unfold jsO
  exact if_pos h
@[simp] theorem z_throw (k : Nat) : sThrow k r m = .exc k [] r m := nr rfl
@[simp] theorem z_raise (k : Nat) (fs : List Str) : sRaise k fs ms r m = RS.of r (ms r m) fun ds m1 => .exc k (fs.zip ds).reverse r m1 := nr rfl
def tryO (isa : Isa) (cs : List Cl) (x : RS) : RS := match x with
  | .exc k fs r1 m1 => hdl isa cs k fs r1 m1
  | x => x
@[simp] theorem z_try (isa : Isa) (cs : List Cl) : sTry isa s cs r m = tryO isa cs (s r m) := nr rfl
@[simp] theorem tryO_nx (isa : Isa) (cs : List Cl) : tryO isa cs (.nx r m) = .nx r m := nr rfl
@[simp] theorem tryO_ret (isa : Isa) (cs : List Cl) (d : D) : tryO isa cs (.ret d m) = .ret d m := nr rfl
@[simp] theorem tryO_bk (isa : Isa) (cs : List Cl) : tryO isa cs (.bk r m) = .bk r m := nr rfl
@[simp] theorem tryO_ct (isa : Isa) (cs : List Cl) : tryO isa cs (.ct r m) = .ct r m := nr rfl
@[simp] theorem tryO_exc (isa : Isa) (cs : List Cl) (k : Nat) (fs : List (Str × D)) : tryO isa cs (.exc k fs r m) = hdl isa cs k fs r m := nr rfl
@[simp] theorem hdl_nil (isa : Isa) (k : Nat) (fs : List (Str × D)) : hdl isa [] k fs r m = .exc k fs r m := nr rfl
def hdO (o : Option Bool) (a b : RS) : RS := match o with
  | some true => a
  | some false => b
  | none => .stuck
@[simp] theorem hdO_t (a b : RS) : hdO (some true) a b = a := nr rfl
@[simp] theorem hdO_f (a b : RS) : hdO (some false) a b = b := nr rfl
@[simp] theorem hdl_none (isa : Isa) (c : CK) (su : Nat → List (Str × D) → SM) (cs : List Cl) (k : Nat) (fs : List (Str × D)) : hdl isa (⟨c, none, su⟩ :: cs) k fs r m = hdO (isa k c) (RS.gone none (su k fs r m)) (hdl isa cs k fs r m) := by
  rw [hdl]
  cases isa k c with
  | none => rfl
  | some b => cases b <;> rfl
@[simp] theorem hdl_some (isa : Isa) (c : CK) (i : Nat) (su : Nat → List (Str × D) → SM) (cs : List Cl) (k : Nat) (fs : List (Str × D)) : hdl isa (⟨c, some i, su⟩ :: cs) k fs r m = hdO (isa k c) (if i < r.length then RS.gone (some i) (su k fs (r.set i none) m) else .stuck) (hdl isa cs k fs r m) := by
  rw [hdl]
  cases isa k c with
  | none => rfl
  | some b => cases b <;> rfl
@[simp] theorem gone_ret (sl : Option Nat) (d : D) : RS.gone sl (.ret d m) = .ret d m := by cases sl <;> exact nr rfl
@[simp] theorem gone_nx0 : RS.gone none (.nx r m) = .nx r m := nr rfl
@[simp] theorem gone_bk0 : RS.gone none (.bk r m) = .bk r m := nr rfl
@[simp] theorem gone_ct0 : RS.gone none (.ct r m) = .ct r m := nr rfl
@[simp] theorem gone_nx (i : Nat) : RS.gone (some i) (.nx r m) = .nx (r.set i none) m := nr rfl
@[simp] theorem gone_bk (i : Nat) : RS.gone (some i) (.bk r m) = .bk (r.set i none) m := nr rfl
@[simp] theorem gone_ct (i : Nat) : RS.gone (some i) (.ct r m) = .ct (r.set i none) m := nr rfl
@[simp] theorem z_is (isa : Isa) (k : Nat) (cs : List CK) : mIs isa k cs r m = tO ((isAny isa k cs).map D.bl) m := by
  unfold mIs
  cases isAny isa k cs <;> exact nr rfl
@[simp] theorem isAny_nil (isa : Isa) (k : Nat) : isAny isa k [] = some false := nr rfl
def orO : Option Bool → Option Bool → Option Bool
  | some b, some d => some (b || d)
  | _, _ => none
@[simp] theorem orO_some (b d : Bool) : orO (some b) (some d) = some (b || d) := nr rfl
@[simp] theorem isAny_cons (isa : Isa) (k : Nat) (c : CK) (cs : List CK) : isAny isa k (c :: cs) = orO (isa k c) (isAny isa k cs) := by
  rw [isAny]
  cases isa k c <;> cases isAny isa k cs <;> exact nr rfl
@[simp] theorem z_fld (xc : List (Nat × XC)) (k : Nat) (fs : List (Str × D)) (f : Str) : mFld xc k fs f r m = if fokOf xc k f = true then tO (fs.lookup f) m else .stuck := by
  unfold mFld
  cases fs.lookup f <;> exact nr rfl
end
@[simp] theorem bp_nm (i : Nat) (d : D) (r : Env) : bindP (.nm i) d r = some (r.set i (some d)) := by simp [bindP]
@[simp] theorem bp_tp (ps : List P) (ds : List D) (r : Env) : bindP (.tp ps) (.tup ds) r = bindPs ps ds r := by simp [bindP]
@[simp] theorem bps_nil (r : Env) : bindPs [] [] r = some r := by simp [bindPs]
@[simp] theorem bps_cons (p : P) (ps : List P) (d : D) (ds : List D) (r : Env) : bindPs (p :: ps) (d :: ds) r = (bindP p d r).bind fun r1 => bindPs ps ds r1 := by simp [bindPs]
@[simp] theorem wipe_nil (r : Env) : wipeE r [] = r := nr rfl
@[simp] theorem wipe_cons (r : Env) (v : Nat) (vs : List Nat) : wipeE r (v :: vs) = (wipeE r vs).set v none := nr rfl

/-! ### values -/
section
variable (m : Sto) (i j : Int) (xs ys : List D) (x y : Str) (d e : D)
@[simp] theorem v_add : binS .Add (.int i) (.int j) m = some (.int (i + j), m) := nr rfl
@[simp] theorem v_sub : binS .Sub (.int i) (.int j) m = some (.int (i - j), m) := nr rfl
@[simp] theorem v_neg : unS .USub (.int i) m = some (.int (-i), m) := nr rfl
theorem log_small {n : Nat} (h : n < 2 ^ 400) : n.log2 < 401 := by
  by_cases z : n = 0
  · subst z; decide
  · have := (Nat.log2_lt z).mpr h; omega
theorem v_mul (h : i.natAbs < 2 ^ 400) (k : j.natAbs < 2 ^ 400) : binS .Mult (.int i) (.int j) m = some (.int (i * j), m) := by
  have a := log_small h
  have b := log_small k
  have : i.natAbs.log2 + j.natAbs.log2 < 1000000 := by omega
  simp only [binS, binV]
  rw [if_pos this]; rfl
theorem v_div (h : j ≠ 0) (k : j.natAbs < 2 ^ 400) : binS .FloorDiv (.int i) (.int j) m = some (.int (i.fdiv j), m) := by
  have b := log_small k
  have : j ≠ 0 ∧ j.natAbs.log2 < 9000 := ⟨h, by omega⟩
  simp only [binS, binV]
  rw [if_pos this]; rfl
theorem v_mod (h : j ≠ 0) : binS .Mod (.int i) (.int j) m = some (.int (i.fmod j), m) := by
  simp only [binS, binV]
  rw [if_pos h]; rfl
theorem v_divP (h : 0 < j) (k : j.natAbs < 2 ^ 400) : binS .FloorDiv (.int i) (.int j) m = some (.int (i / j), m) := by
  rw [v_div m i j (by omega) k, Int.fdiv_eq_ediv_of_nonneg i (by omega)]
theorem v_modP (h : 0 < j) : binS .Mod (.int i) (.int j) m = some (.int (i % j), m) := by
  rw [v_mod m i j (by omega), Int.fmod_eq_emod_of_nonneg i (by omega)]
theorem v_pow (h : 0 ≤ j ∧ j ≤ 1000000 ∧ i.natAbs < 2 ^ 64) : binS .Pow (.int i) (.int j) m = some (.int (i ^ j.toNat), m) := by
  simp only [binS, binV]
  rw [if_pos h]; rfl
theorem v_tupAdd (h : xs.length + ys.length ≤ 1000000) : binS .Add (.tup xs) (.tup ys) m = some (.tup (xs ++ ys), m) := by
  simp only [binS, binV]
  rw [if_pos (show xs.length + ys.length ≤ lim from h)]; rfl
theorem v_lstAdd (h : xs.length + ys.length ≤ 1000000) : binS .Add (.lst xs) (.lst ys) m = some (.lst (xs ++ ys), m) := by
  simp only [binS, binV]
  rw [if_pos (show xs.length + ys.length ≤ lim from h)]; rfl
theorem v_strAdd (h : x.length + y.length ≤ 1000000) : binS .Add (.str x) (.str y) m = some (.str (x ++ y), m) := by
  simp only [binS, binV]
  rw [if_pos (show x.length + y.length ≤ lim from h)]; rfl
@[simp] theorem c_lt : cmpB .Lt (.int i) (.int j) = some (decide (i < j)) := nr rfl
@[simp] theorem c_le : cmpB .LtE (.int i) (.int j) = some (decide (i ≤ j)) := nr rfl
@[simp] theorem c_gt : cmpB .Gt (.int i) (.int j) = some (decide (j < i)) := nr rfl
@[simp] theorem c_ge : cmpB .GtE (.int i) (.int j) = some (decide (j ≤ i)) := nr rfl
@[simp] theorem c_eqS : cmpB .Eq (.str x) (.str y) = some (x == y) := nr rfl
@[simp] theorem c_neS : cmpB .NotEq (.str x) (.str y) = some (!(x == y)) := nr rfl
@[simp] theorem c_eqI : cmpB .Eq (.int i) (.int j) = some (i == j) := nr rfl
@[simp] theorem c_neI : cmpB .NotEq (.int i) (.int j) = some (!(i == j)) := nr rfl
@[simp] theorem c_s (op : CmpOp) : cmpS op d e m = (cmpB op d e).map fun r => (.bl r, m) := nr rfl
@[simp] theorem t_bl (b : Bool) : truO (.bl b) m = some b := nr rfl
@[simp] theorem t_non : truO .non m = some false := nr rfl
@[simp] theorem t_int : truO (.int i) m = some (i != 0) := nr rfl
@[simp] theorem t_tup : truO (.tup xs) m = some (!xs.isEmpty) := nr rfl
@[simp] theorem t_lst : truO (.lst xs) m = some (!xs.isEmpty) := nr rfl
@[simp] theorem x_lst : ixO (.lst xs) (.int i) m = (atI xs i).map fun d => (d, m) := nr rfl
@[simp] theorem x_tup : ixO (.tup xs) (.int i) m = (atI xs i).map fun d => (d, m) := nr rfl
theorem x_ref {l : Nat} (h : m[l]? = some (.lst xs)) : ixO (.ref l) (.int i) m = (atI xs i).map fun d => (d, m) := by simp [ixO, h]
theorem set_ref {l k : Nat} (h : m[l]? = some (.lst xs)) (hk : ixN xs.length i = some k) : setD (.ref l) (.int i) d m = some (m.set l (.lst (xs.set k d))) := by simp [setD, h, hk]
@[simp] theorem i_lst : itV (.lst xs) m = some ⟨xs, none⟩ := nr rfl
@[simp] theorem i_str : itV (.str x) m = some ⟨x.cps.toList.map fun c => .str ⟨#[c]⟩, none⟩ := nr rfl
@[simp] theorem ok_str : okStr (.str x) m = true := nr rfl
@[simp] theorem i_tup : itV (.tup xs) m = some ⟨xs, none⟩ := nr rfl
theorem tup_mk' (h : xs.length ≤ 1000000) : tupO xs m = some (.tup xs, m) := if_pos h
@[simp] theorem tup_mk (h : xs.length / 1000001 = 0) : tupO xs m = some (.tup xs, m) := tup_mk' m xs (by omega)
theorem lst_mk' (h : xs.length ≤ 1000000) : lstO xs m = some (.lst xs, m) := if_pos h
@[simp] theorem lst_mk (h : xs.length / 1000001 = 0) : lstO xs m = some (.lst xs, m) := lst_mk' m xs (by omega)
theorem new_mk' (h : xs.length ≤ 1000000) : newL xs m = some (.ref m.length, m ++ [.lst xs]) := if_pos h
@[simp] theorem new_mk (h : xs.length / 1000001 = 0) : newL xs m = some (.ref m.length, m ++ [.lst xs]) := new_mk' m xs (by omega)
@[simp] theorem len_lst : lenO [.lst xs] m = some (.int xs.length, m) := nr rfl
@[simp] theorem len_tup : lenO [.tup xs] m = some (.int xs.length, m) := nr rfl
@[simp] theorem max_i : maxO [.int i, .int j] m = some (.int (if j > i then j else i), m) := nr rfl
@[simp] theorem min_i : minO [.int i, .int j] m = some (.int (if j < i then j else i), m) := nr rfl
@[simp] theorem tuple_lst : tupleO [.lst xs] m = some (.tup xs, m) := nr rfl
@[simp] theorem tuple_tup : tupleO [.tup xs] m = some (.tup xs, m) := nr rfl
theorem tuple_ref {l : Nat} (h : m[l]? = some (.lst xs)) : tupleO [.ref l] m = some (.tup xs, m) := by simp [tupleO, itemsO, h]
@[simp] theorem list_lst : listO [.lst xs] m = some (.lst xs, m) := nr rfl
@[simp] theorem list_tup : listO [.tup xs] m = some (.lst xs, m) := nr rfl
@[simp] theorem sl_tup (lo hi : Option Int) : slO (.tup xs) lo hi m = some (.tup (cutD xs lo hi), m) := nr rfl
@[simp] theorem sl_lst (lo hi : Option Int) : slO (.lst xs) lo hi m = some (.lst (cutD xs lo hi), m) := nr rfl
theorem at_nn {k : Nat} (h : xs[k]? = some d) : atI xs (k : Int) = some d := by
  have hl := (List.getElem?_eq_some_iff.mp h).1
  unfold atI ixN
  have : (0 : Int) ≤ k ∧ (k : Int) < xs.length := ⟨by omega, by omega⟩
  simp [this, h]
end
theorem at_int {xs : List D} {i : Int} {d : D} (h0 : 0 ≤ i) (h : xs[i.toNat]? = some d) : atI xs i = some d := by
  have := at_nn (d := d) xs h
  rwa [Int.toNat_of_nonneg h0] at this

/-! ### frozen at a use, mutable copies, dicts -/
section
variable (a b : M D) (ms : M (List D)) (r : Env) (m : Sto) (xs ys : List D) (x : Str) (l : Nat) (d : D)
@[simp] theorem z_frz : mFrz a r m = (a r m).bind fun d m1 => .ok (frzO d m1).1 (frzO d m1).2 := nr rfl
@[simp] theorem frz_int (i : Int) : frzO (.int i) m = (.int i, m) := nr rfl
@[simp] theorem frz_str : frzO (.str x) m = (.str x, m) := nr rfl
@[simp] theorem frz_tup : frzO (.tup xs) m = (.tup xs, m) := nr rfl
@[simp] theorem frzO_lst : frzO (.lst xs) m = (.lst xs, m) := nr rfl
@[simp] theorem frz_non : frzO .non m = (.non, m) := nr rfl
@[simp] theorem frz_bl (b : Bool) : frzO (.bl b) m = (.bl b, m) := nr rfl
theorem frz_ref (h : m[l]? = some (.lst xs)) : frzO (.ref l) m = (.lst xs, m.set l .dead) := by simp [frzO, h]
def cmO (o : Option (D × Sto)) : R Bool := match o with
  | some (.bl k, m3) => .ok k m3
  | _ => .stuck
@[simp] theorem cmO_some (k : Bool) : cmO (some (.bl k, m)) = .ok k m := nr rfl
@[simp] theorem z_cmpTR (op : CmpOp) : mCmpTR op a b r m = (a r m).bind fun x m1 => (b r m1).bind fun y m2 => cmO (cmpSR op x y m2) := nr rfl
theorem rsv_ref (h : m[l]? = some (.lst xs)) : rsv (.ref l) m = .lst xs := by simp [rsv, h]
@[simp] theorem rsv_lstV : rsv (.lst xs) m = .lst xs := nr rfl
theorem csr_in {y : D} {b : Bool} (h : inR d y m = some b) : cmpSR .In d y m = some (.bl b, m) := by unfold cmpSR; simp [h]
theorem csr_nin {y : D} {b : Bool} (h : inR d y m = some b) : cmpSR .NotIn d y m = some (.bl (!b), m) := by unfold cmpSR; simp [h]
theorem inR_fl {y : D} {b : Bool} (h : rsv y m = .lst xs) (g : inFl d xs = some b) : inR d y m = some b := by
  unfold inR inDp
  rw [h]
  simp only [g]
@[simp] theorem z_itN : mItN ms r m = (ms r m).bind fun ds m1 => tO (enI ds) m1 := by
  unfold mItN
  congr 1
  funext ds m1
  cases enI ds <;> rfl
@[simp] theorem enI_lst : enI [.lst xs] = some ⟨enumD xs, none⟩ := nr rfl
@[simp] theorem z_callV (call : CallF) (ok : Nat → Bool) (i : Nat) : mCallV call ok i ms r m = match r[i]? with
  | some (some (.fn k)) => if ok k = true then mCall call k ms [] r m else .stuck
  | _ => .stuck := nr rfl
@[simp] theorem z_dc (mi : M ItD) (p : P) (t : M Bool) (own : List Nat) : mDc mi own p t a b r m = (mi r m).bind fun it m1 => dcL (Live it) p t a b (wipeE r own) it.items [] m1 := nr rfl
theorem csr_eq {x y : D} (h : rsv x m = .lst xs) (g : rsv y m = .lst ys) : cmpSR .Eq x y m = (eqD (.lst xs) (.lst ys)).map fun r => (.bl r, m) := by unfold cmpSR; simp [h, g]
theorem csr_ne {x y : D} (h : rsv x m = .lst xs) (g : rsv y m = .lst ys) : cmpSR .NotEq x y m = (eqD (.lst xs) (.lst ys)).map fun r => (.bl (!r), m) := by
  unfold cmpSR; simp only [h, g]; cases eqD (.lst xs) (.lst ys) <;> rfl
@[simp] theorem dctL_nil : dctL [] r m = .ok [] m := nr rfl
@[simp] theorem dctL_cons (k : Str) (t : List (Str × M D)) : dctL ((k, a) :: t) r m = (a r m).bind fun d m1 => (dctL t r m1).bind fun ds m2 => .ok ((.str k, d) :: ds) m2 := nr rfl
theorem z_dct (t : List (Str × M D)) (h : (t.map (·.1)).Nodup ∧ t.length ≤ 15) : mDct t r m = (dctL t r m).bind fun ds m1 => .ok (.dct ds) m1 := if_pos h
@[simp] theorem z_dlk : mDLk a b r m = (a r m).bind fun x m1 => (b r m1).bind fun y m2 => dLook x y m2 := nr rfl
@[simp] theorem dlook_str (ds : List (D × D)) : dLook (.dct ds) (.str x) m = tO (dGet ds (.str x)) m := by
  unfold dLook
  simp [keyOk]
  cases dGet ds (.str x) <;> rfl
@[simp] theorem dGet_cons (y : Str) (ds : List (D × D)) : dGet ((.str y, d) :: ds) (.str x) = if y = x then some d else dGet ds (.str x) := nr rfl
def kdO (kvs : List (Str × D)) (y : D) (m1 : Sto) : R D := match y with
  | .str z => (match kvs.lookup z with
    | some d => .ok d m1
    | none => .stuck)
  | _ => .stuck
@[simp] theorem z_kd (kvs : List (Str × D)) : mKD kvs b r m = (b r m).bind fun y m1 => kdO kvs y m1 := nr rfl
@[simp] theorem kdO_str (kvs : List (Str × D)) : kdO kvs (.str x) m = tO (kvs.lookup x) m := by
  unfold kdO
  dsimp only
  cases kvs.lookup x <;> rfl
@[simp] theorem z_lcN (mi : M ItD) (p : P) (t : M Bool) (own : List Nat) : mLcN mi own p t a r m = (mi r m).bind fun it m1 => (lcL (Live it) p t a (wipeE r own) it.items [] m1).bind thaw := nr rfl
@[simp] theorem thaw_lst : thaw (.lst xs) m = .ok (.ref m.length) (m ++ [.lst xs]) := nr rfl
@[simp] theorem listN_lst : listN [.lst xs] m = some (.ref m.length, m ++ [.lst xs]) := nr rfl
@[simp] theorem listN_tup : listN [.tup xs] m = some (.ref m.length, m ++ [.lst xs]) := nr rfl
theorem list_ref (h : m[l]? = some (.lst xs)) : listO [.ref l] m = some (.lst xs, m) := by simp [listO, itemsO, h]
theorem len_ref (h : m[l]? = some (.lst xs)) : lenO [.ref l] m = some (.int xs.length, m) := by simp [lenO, itemsO, h]
theorem catN_of {x y : D} (h : rsv x m = .lst xs) (g : rsv y m = .lst ys) (hl : xs.length + ys.length ≤ 1000000) : catN x y m = some (.ref m.length, m ++ [.lst (xs ++ ys)]) := by
  unfold catN
  rw [h, g]
  exact if_pos hl
theorem reprR_ref (h : m[l]? = some (.lst xs)) : reprRO [.ref l] m = reprO [.lst xs] m := by
  simp only [reprRO, rsv_ref m xs l h, reprO]
  try rfl
theorem clear_ref (h : m[l]? = some (.lst xs)) : clearO (.ref l) [] m = some (.non, m.set l (.lst [])) := by simp [clearO, h]
theorem okLst_ref (h : m[l]? = some (.lst xs)) : okLst (.ref l) m = true := by simp [okLst, isLst, h]
theorem sl_ref (lo hi : Option Int) (h : m[l]? = some (.lst xs)) : slO (.ref l) lo hi m = some (.lst (cutD xs lo hi), m) := by simp [slO, h]
theorem i_ref (h : m[l]? = some (.lst xs)) : itV (.ref l) m = some ⟨xs, some l⟩ := by simp [itV, h]
theorem t_str (h : x.length ≤ 1000000) : truO (.str x) m = some ((x.length : Int) != 0) := if_pos h
end

/-! ### loops -/
theorem for_nil (p : P) (s : SM) (it : List D) (r : Env) (m : Sto) : forL (Live ⟨it, none⟩) p s [] r m = .nx r m := by
  simp [forL, Live]
theorem for_cons (p : P) (s : SM) (it : List D) (d : D) (ds : List D) (r : Env) (m : Sto) : forL (Live ⟨it, none⟩) p s (d :: ds) r m = (match bindP p d r with
    | none => .stuck
    | some r1 => match s r1 m with
      | .nx r2 m2 => forL (Live ⟨it, none⟩) p s ds r2 m2
      | .ct r2 m2 => forL (Live ⟨it, none⟩) p s ds r2 m2
      | .bk r2 m2 => .nx r2 m2
      | x => x) := forL_cons trivial
/-- each turn keeps I and goes on -/
theorem for_inv {p : P} {s : SM} {it : List D} (I : Env → Sto → Prop) : ∀ {ds : List D} {r : Env} {m : Sto}, (∀ d ∈ ds, ∀ r m, I r m → ∃ r1 r2 m2, bindP p d r = some r1 ∧ (s r1 m = .nx r2 m2 ∨ s r1 m = .ct r2 m2) ∧ I r2 m2) → I r m →
    ∃ r2 m2, forL (Live ⟨it, none⟩) p s ds r m = .nx r2 m2 ∧ I r2 m2
  | [], r, m, _, h => ⟨r, m, for_nil p s it r m, h⟩
  | d :: ds, r, m, st, h => by
    obtain ⟨r1, r2, m2, e1, e2, h2⟩ := st d List.mem_cons_self r m h
    obtain ⟨r3, m3, e3, h3⟩ := for_inv (it := it) I (ds := ds) (fun d hd => st d (List.mem_cons_of_mem _ hd)) h2
    refine ⟨r3, m3, ?_, h3⟩
    rw [for_cons, e1]
    rcases e2 with e2 | e2 <;> simp only [e2, e3]
/-- a comprehension whose parts leave the store -/
theorem lc_pure {p : P} {mc : M Bool} {me : M D} {r : Env} {m : Sto} (f : D → Bool) (g : D → D) {it : List D} : ∀ {ds acc : List D}, (∀ d ∈ ds, ∃ r1, bindP p d r = some r1 ∧ mc r1 m = .ok (f d) m ∧ (f d = true → me r1 m = .ok (g d) m)) → acc.length + ds.length ≤ lim →
    lcL (Live ⟨it, none⟩) p mc me r ds acc m = .ok (.lst (acc ++ (ds.filter f).map g)) m
  | [], acc, _, _ => by simp [lcL, Live]
  | d :: ds, acc, st, hl => by
    obtain ⟨r1, e1, e2, e3⟩ := st d List.mem_cons_self
    rw [List.length_cons] at hl
    rw [lcL_cons trivial, e1]
    simp only [e2]
    cases hf : f d with
    | false =>
      simp only
      rw [lc_pure f g (fun d hd => st d (List.mem_cons_of_mem _ hd)) (by omega)]
      simp [hf]
    | true =>
      simp only [e3 hf]
      rw [if_pos (by omega), lc_pure f g (fun d hd => st d (List.mem_cons_of_mem _ hd)) (by rw [List.length_append, List.length_singleton]; omega)]
      simp [hf]
end DI

set_option Elab.async false
set_option linter.all false
set_option maxRecDepth 100000
set_option maxHeartbeats 1000000
/-! DIO: plain values: repr, ==, isinstance. -/
namespace DI
open PySem PySem.Spec L2
open PyProof.Rows hiding St

mutual
/-- plain data, ints below 10^k -/
def okD (k : Nat) : D → Bool
  | .non => true
  | .bl _ => true
  | .int i => decide (i.natAbs < 10 ^ k)
  | .str x => PyData.strOk x
  | .tup ds => okDs k ds
  | .lst ds => okDs k ds
  | _ => false
def okDs (k : Nat) : List D → Bool
  | [] => true
  | d :: ds => okD k d && okDs k ds
end
mutual
def wD (k : Nat) : D → Nat
  | .int _ => 4 * k
  | .str x => x.cps.size
  | .tup ds => wDs k ds
  | .lst ds => wDs k ds
  | _ => 0
def wDs (k : Nat) : List D → Nat
  | [] => 0
  | d :: ds => wD k d + 1 + wDs k ds
end
mutual
def hD : D → Nat
  | .tup ds => hDs ds + 1
  | .lst ds => hDs ds + 1
  | _ => 0
def hDs : List D → Nat
  | [] => 0
  | d :: ds => max (hD d) (hDs ds)
end
@[simp] theorem okDs_nil (k : Nat) : okDs k [] = true := by simp [okDs]
@[simp] theorem okDs_cons (k : Nat) (d : D) (ds : List D) : okDs k (d :: ds) = (okD k d && okDs k ds) := by simp [okDs]
@[simp] theorem okD_tup (k : Nat) (ds : List D) : okD k (.tup ds) = okDs k ds := by simp [okD]
@[simp] theorem okD_lst (k : Nat) (ds : List D) : okD k (.lst ds) = okDs k ds := by simp [okD]
@[simp] theorem okD_non (k : Nat) : okD k .non = true := by simp [okD]
@[simp] theorem okD_bl (k : Nat) (b : Bool) : okD k (.bl b) = true := by simp [okD]
theorem okD_int (k : Nat) (i : Int) : okD k (.int i) = decide (i.natAbs < 10 ^ k) := by simp [okD]
theorem okD_str (k : Nat) (x : Str) : okD k (.str x) = PyData.strOk x := by simp [okD]
theorem okDs_all {k : Nat} : ∀ {ds : List D}, okDs k ds = true ↔ ∀ d ∈ ds, okD k d = true
  | [] => by simp
  | d :: ds => by rw [okDs_cons, Bool.and_eq_true, okDs_all (ds := ds)]; simp
@[simp] theorem wDs_nil (k : Nat) : wDs k [] = 0 := by simp [wDs]
@[simp] theorem wDs_cons (k : Nat) (d : D) (ds : List D) : wDs k (d :: ds) = wD k d + 1 + wDs k ds := by simp [wDs]
@[simp] theorem wD_tup (k : Nat) (ds : List D) : wD k (.tup ds) = wDs k ds := by simp [wD]
@[simp] theorem wD_lst (k : Nat) (ds : List D) : wD k (.lst ds) = wDs k ds := by simp [wD]
@[simp] theorem wD_int (k : Nat) (i : Int) : wD k (.int i) = 4 * k := by simp [wD]
@[simp] theorem wD_non (k : Nat) : wD k .non = 0 := by simp [wD]
@[simp] theorem wD_bl (k : Nat) (b : Bool) : wD k (.bl b) = 0 := by simp [wD]
@[simp] theorem wD_str (k : Nat) (x : Str) : wD k (.str x) = x.cps.size := by simp [wD]
@[simp] theorem hDs_nil : hDs [] = 0 := by simp [hDs]
@[simp] theorem hDs_cons (d : D) (ds : List D) : hDs (d :: ds) = max (hD d) (hDs ds) := by simp [hDs]
@[simp] theorem hD_tup (ds : List D) : hD (.tup ds) = hDs ds + 1 := by simp [hD]
@[simp] theorem hD_lst (ds : List D) : hD (.lst ds) = hDs ds + 1 := by simp [hD]
@[simp] theorem hD_int (i : Int) : hD (.int i) = 0 := by simp [hD]
@[simp] theorem hD_non : hD .non = 0 := by simp [hD]
@[simp] theorem hD_bl (b : Bool) : hD (.bl b) = 0 := by simp [hD]
@[simp] theorem hD_str (x : Str) : hD (.str x) = 0 := by simp [hD]
theorem wDs_append (k : Nat) : ∀ (a b : List D), wDs k (a ++ b) = wDs k a + wDs k b
  | [], b => by simp
  | d :: ds, b => by rw [List.cons_append, wDs_cons, wDs_cons, wDs_append k ds b]; omega
theorem okDs_append (k : Nat) (a b : List D) : okDs k (a ++ b) = (okDs k a && okDs k b) := by
  induction a with
  | nil => simp
  | cons d ds ih => rw [List.cons_append, okDs_cons, okDs_cons, ih, Bool.and_assoc]
theorem hDs_append : ∀ (a b : List D), hDs (a ++ b) = max (hDs a) (hDs b)
  | [], b => by simp
  | d :: ds, b => by rw [List.cons_append, hDs_cons, hDs_cons, hDs_append ds b]; omega
theorem wDs_le {k B : Nat} : ∀ {ds : List D}, (∀ d ∈ ds, wD k d ≤ B) → wDs k ds ≤ ds.length * (B + 1)
  | [], _ => by simp
  | d :: ds, h => by
    have h1 := h d List.mem_cons_self
    have h2 := wDs_le (ds := ds) fun e he => h e (List.mem_cons_of_mem _ he)
    rw [wDs_cons, List.length_cons, Nat.add_mul, Nat.one_mul]; omega
theorem hDs_le {B : Nat} : ∀ {ds : List D}, (∀ d ∈ ds, hD d ≤ B) → hDs ds ≤ B
  | [], _ => by simp
  | d :: ds, h => by
    have h1 := h d List.mem_cons_self
    have h2 := hDs_le (ds := ds) fun e he => h e (List.mem_cons_of_mem _ he)
    rw [hDs_cons]; omega
theorem wD_mem {k : Nat} {d : D} : ∀ {ds : List D}, d ∈ ds → wD k d ≤ wDs k ds
  | e :: ds, h => by
    rw [wDs_cons]
    rcases List.mem_cons.mp h with rfl | h
    · omega
    · have := wD_mem (k := k) h; omega
theorem hD_mem {d : D} : ∀ {ds : List D}, d ∈ ds → hD d ≤ hDs ds
  | e :: ds, h => by
    rw [hDs_cons]
    rcases List.mem_cons.mp h with rfl | h
    · omega
    · have := hD_mem h; omega
theorem len_wDs {k : Nat} : ∀ {ds : List D}, ds.length ≤ wDs k ds
  | [] => by simp
  | d :: ds => by rw [wDs_cons, List.length_cons]; have := len_wDs (k := k) (ds := ds); omega

structure PyOk (k : Nat) (d : D) (y : PyData) : Prop where
  lay : y.canLay0 = true
  dp : y.depth = hD d
  wt : y.weight ≤ wD k d
  lv : y.leavesShort (k + 8) = true
  sh : y.showable = true
structure PysOk (k : Nat) (ds : List D) (ys : List PyData) : Prop where
  lay : PyData.canLayAll0 ys = true
  dp : PyData.depthAll ys = hDs ds
  wt : PyData.weightAll ys ≤ wDs k ds
  lv : PyData.leavesShortAll (k + 8) ys = true
  sh : PyData.showableAll ys = true
theorem log_ten {n k : Nat} (h : n < 10 ^ k) : n.log2 ≤ 4 * k ∧ (n ≠ 0 → n.log2 + 1 ≤ 4 * k) := by
  have h2 : n < 2 ^ (4 * k) := by
    refine Nat.lt_of_lt_of_le h ?_
    rw [Nat.pow_mul]
    exact Nat.pow_le_pow_left (by decide) k
  by_cases z : n = 0
  · subst z; simp
  · have := (Nat.log2_lt z).mpr h2; omega
mutual
theorem toPy_ok {k : Nat} (hk : 0 < k) (hk2 : k ≤ 400) : ∀ {d : D}, okD k d = true → ∃ y, toPy d = some y ∧ PyOk k d y := fun {d} h => by
  match d, h with
  | .non, h => exact ⟨.none, rfl, rfl, rfl, Nat.zero_le _, rfl, rfl⟩
  | .bl b, h => exact ⟨.bool b, rfl, rfl, rfl, Nat.zero_le _, rfl, rfl⟩
  | .int i, h =>
    rw [okD_int, decide_eq_true_eq] at h
    obtain ⟨l1, l2⟩ := log_ten h
    refine ⟨.int i, rfl, rfl, rfl, ?_, ?_, ?_⟩
    · rw [wD_int]; simp only [PyData.weight]
      split
      · omega
      · rename_i z
        exact l2 (by simpa using z)
    · show decide ((Str.ofString (toString i)).length ≤ k + 8) = true
      refine decide_eq_true ?_
      rw [PySem.ofString_length]
      have := int_text_length_le10 hk h
      omega
    · simp only [PyData.showable, decide_eq_true_eq]; omega
  | .str x, h =>
    rw [okD_str] at h
    refine ⟨.str x, rfl, by simpa [PyData.canLay0] using h, rfl, by rw [wD_str]; exact Nat.le_refl _, ?_, rfl⟩
    simp only [PyData.leavesShort, List.all_eq_true, decide_eq_true_eq]
    intro c hc
    unfold PyData.strOk at h
    rw [Array.all_eq_true'] at h
    have := h c (by simpa using hc)
    simp only [decide_eq_true_eq] at this
    exact Nat.lt_trans this (by decide)
  | .tup ds, h =>
    rw [okD_tup] at h
    obtain ⟨ys, e, q⟩ := toPys_ok hk hk2 h
    exact ⟨.tuple ys, by simp [toPy, e], by simpa [PyData.canLay0] using q.lay, by simp only [PyData.depth, hD_tup, q.dp], by simpa only [PyData.weight, wD_tup] using q.wt, by simpa only [PyData.leavesShort] using q.lv, by simpa only [PyData.showable] using q.sh⟩
  | .lst ds, h =>
    rw [okD_lst] at h
    obtain ⟨ys, e, q⟩ := toPys_ok hk hk2 h
    exact ⟨.list ys, by simp [toPy, e], by simpa [PyData.canLay0] using q.lay, by simp only [PyData.depth, hD_lst, q.dp], by simpa only [PyData.weight, wD_lst] using q.wt, by simpa only [PyData.leavesShort] using q.lv, by simpa only [PyData.showable] using q.sh⟩
theorem toPys_ok {k : Nat} (hk : 0 < k) (hk2 : k ≤ 400) : ∀ {ds : List D}, okDs k ds = true → ∃ ys, toPys ds = some ys ∧ PysOk k ds ys := fun {ds} h => by
  match ds, h with
  | [], h => exact ⟨[], rfl, rfl, by simp [PyData.depthAll], Nat.zero_le _, rfl, rfl⟩
  | d :: ds, h =>
    rw [okDs_cons, Bool.and_eq_true] at h
    obtain ⟨y, e1, q1⟩ := toPy_ok hk hk2 h.1
    obtain ⟨ys, e2, q2⟩ := toPys_ok hk hk2 h.2
    refine ⟨y :: ys, by simp [toPys, e1, e2], ?_, ?_, ?_, ?_, ?_⟩
    · simp only [PyData.canLayAll0, q1.lay, q2.lay, Bool.and_self]
    · simp only [PyData.depthAll, hDs_cons, q1.dp, q2.dp]
    · rw [wDs_cons]; simp only [PyData.weightAll]; have := q1.wt; have := q2.wt; omega
    · simp only [PyData.leavesShortAll, q1.lv, q2.lv, Bool.and_self]
    · simp only [PyData.showableAll, q1.sh, q2.sh, Bool.and_self]
end
theorem shaped_of {k : Nat} {d : D} {y : PyData} (q : PyOk k d y) (h : hD d ≤ 64) : SeqAt.shaped y = true := by
  unfold SeqAt.shaped
  rw [q.lay, q.dp]
  simpa using h
/-- repr of plain data, not too great -/
theorem repr_ok {k : Nat} (hk : 0 < k) (hk2 : k ≤ 400) {d : D} (h : okD k d = true) (hh : hD d ≤ 64) (hw : (k + 10) * wD k d + (k + 8) ≤ lim) : ∃ s, ∀ m, reprO [d] m = some (.str s, m) := by
  obtain ⟨y, e, q⟩ := toPy_ok hk hk2 h
  refine ⟨y.shown, fun m => ?_⟩
  have l1 := PyData.shown_le (k + 8) (by omega) y q.lv
  have l2 : (k + 8 + 2) * y.weight ≤ (k + 10) * wD k d := Nat.mul_le_mul_left _ q.wt
  have hc : SeqAt.shaped y = true ∧ y.showable = true ∧ y.shown.length ≤ lim := ⟨shaped_of q hh, q.sh, by omega⟩
  cases d with
  | dct kvs => simp [okD] at h
  | _ => simp only [reprO, e]; rw [if_pos hc]
theorem repr_dct (m : Sto) : reprO [.dct []] m = some (.str (PyData.shown (.dict [])), m) := rfl
theorem repr_bl (b : Bool) (m : Sto) : reprO [.bl b] m = some (.str (PyData.shown (.bool b)), m) := by
  have hc : SeqAt.shaped (.bool b) = true ∧ (PyData.bool b).showable = true ∧ (PyData.shown (.bool b)).length ≤ lim := by cases b <;> exact ⟨by decide, by decide, by decide⟩
  simp only [reprO, toPy]; rw [if_pos hc]
/-- == of a list with the empty one -/
theorem eq_empty {k : Nat} (hk : 0 < k) (hk2 : k ≤ 400) {ds : List D} (h : okDs k ds = true) (hh : hDs ds ≤ 63) : eqD (.lst ds) (.lst []) = some ds.isEmpty := by
  obtain ⟨y, e, q⟩ := toPy_ok hk hk2 (d := .lst ds) (by simpa using h)
  have s1 := shaped_of q (by rw [hD_lst]; omega)
  have e2 : toPy (.lst []) = some (.list []) := rfl
  have s2 : SeqAt.shaped (.list []) = true := by decide
  unfold eqD
  simp only [e, e2, s1, s2, Bool.and_self, if_true]
  simp only [toPy] at e
  obtain ⟨ys, e3, rfl⟩ := Option.map_eq_some_iff.mp e
  cases ds with
  | nil => simp only [toPys, Option.some.injEq] at e3; subst e3; simp [PyData.eqv, PyData.eqvAll]
  | cons d ds =>
    simp only [toPys] at e3
    split at e3
    · cases e3; simp [PyData.eqv, PyData.eqvAll]
    · cases e3
/-- == of a thing with itself -/
theorem eq_self {k : Nat} (hk : 0 < k) (hk2 : k ≤ 400) {d : D} (h : okD k d = true) (hh : hD d ≤ 64) : eqD d d = some true := by
  obtain ⟨y, e, q⟩ := toPy_ok hk hk2 h
  have s1 := shaped_of q hh
  unfold eqD
  simp only [e, s1, Bool.and_self, if_true, SeqAt.eqv_refl y q.lay]

/-! ### isinstance -/
def tyF : D → String
  | .non => "NoneType"
  | .bl _ => "bool"
  | .int _ => "int"
  | .str _ => "str"
  | .tup _ => "tuple"
  | .lst _ => "list"
  | .dct _ => "dict"
  | _ => ""
def isFz : D → Bool
  | .non => true | .bl _ => true | .int _ => true | .str _ => true | .tup _ => true | .lst _ => true | .dct _ => true
  | _ => false
theorem tyOf_fz {d : D} (h : isFz d = true) (m : Sto) : tyOf d m = some (tyF d) := by cases d <;> first | rfl | cases h
theorem okD_fz {k : Nat} {d : D} (h : okD k d = true) : isFz d = true := by cases d <;> first | rfl | (simp [okD] at h)
def tyB (a b : String) : Bool := a == b || (a == "bool" && b == "int")
def tys : List String := ["NoneType", "bool", "int", "str", "tuple", "list", "dict"]
theorem kit_all : (tys.all fun a => (tys.drop 1).all fun b => decide (kitB a b = some (tyB a b))) = true := by decide +kernel
theorem isi_fz {d : D} (h : isFz d = true) {n : String} (hn : n ∈ tys.drop 1) (m : Sto) : isiO [d, .ty n] m = some (.bl (tyB (tyF d) n), m) := by
  have a : tyF d ∈ tys := by cases d <;> first | (simp [tyF, tys]; done) | cases h
  have q := List.all_eq_true.mp kit_all _ a
  have q2 := of_decide_eq_true (List.all_eq_true.mp q _ hn)
  show (match tyOf d m with
    | some k => (kitB k n).map fun b => (D.bl b, m)
    | none => none) = _
  rw [tyOf_fz h, ]
  show (kitB (tyF d) n).map _ = _
  rw [q2]; rfl
section
variable (m : Sto) (d : D)
def isTupD : D → Bool
  | .tup _ => true
  | _ => false
def isIntD : D → Bool
  | .int _ => true
  | _ => false
def isStrD : D → Bool
  | .str _ => true
  | _ => false
def isBlD : D → Bool
  | .bl _ => true
  | _ => false
def isLstD : D → Bool
  | .lst _ => true
  | _ => false
theorem isi_int (h : isFz d = true) : isiO [d, .ty "int"] m = some (.bl (isIntD d || isBlD d), m) := by
  rw [isi_fz h (by decide)]; cases d <;> first | rfl | cases h
theorem isi_bool (h : isFz d = true) : isiO [d, .ty "bool"] m = some (.bl (isBlD d), m) := by
  rw [isi_fz h (by decide)]; cases d <;> first | rfl | cases h
theorem isi_str (h : isFz d = true) : isiO [d, .ty "str"] m = some (.bl (isStrD d), m) := by
  rw [isi_fz h (by decide)]; cases d <;> first | rfl | cases h
theorem isi_tup (h : isFz d = true) : isiO [d, .ty "tuple"] m = some (.bl (isTupD d), m) := by
  rw [isi_fz h (by decide)]; cases d <;> first | rfl | cases h
theorem isi_lst (h : isFz d = true) : isiO [d, .ty "list"] m = some (.bl (isLstD d), m) := by
  rw [isi_fz h (by decide)]; cases d <;> first | rfl | cases h
end
theorem at_mem {xs : List D} {i : Int} (h0 : 0 ≤ i) (h : i < xs.length) : ∃ d, atI xs i = some d ∧ d ∈ xs := by
  have hl : i.toNat < xs.length := by omega
  exact ⟨xs[i.toNat], at_int h0 (List.getElem?_eq_getElem hl), List.getElem_mem hl⟩
/-- each turn goes on; I tells what is left -/
theorem for_left {p : P} {s : SM} {it : List D} (I : List D → Env → Sto → Prop) : ∀ {ds : List D} {r : Env} {m : Sto}, (∀ d ds r m, I (d :: ds) r m → ∃ r1 r2 m2, bindP p d r = some r1 ∧ (s r1 m = .nx r2 m2 ∨ s r1 m = .ct r2 m2) ∧ I ds r2 m2) → I ds r m →
    ∃ r2 m2, forL (Live ⟨it, none⟩) p s ds r m = .nx r2 m2 ∧ I [] r2 m2
  | [], r, m, _, h => ⟨r, m, for_nil p s it r m, h⟩
  | d :: ds, r, m, st, h => by
    obtain ⟨r1, r2, m2, e1, e2, h2⟩ := st d ds r m h
    obtain ⟨r3, m3, e3, h3⟩ := for_left (it := it) I (ds := ds) st h2
    refine ⟨r3, m3, ?_, h3⟩
    rw [for_cons, e1]
    rcases e2 with e2 | e2 <;> simp only [e2, e3]
theorem v_lstMul (m : Sto) (d : D) (k : Int) (h : 0 ≤ k) (h2 : k ≤ 1000) : binS .Mult (.lst [d]) (.int k) m = some (.lst (List.replicate k.toNat d), m) := by
  have c : -(2 ^ 63) ≤ k ∧ k < 2 ^ 63 ∧ [d].length * k.toNat ≤ lim := ⟨by omega, by omega, by unfold lim; rw [List.length_singleton]; omega⟩
  simp only [binS, binV]
  rw [if_pos c]
  simp
theorem v_tupMul (m : Sto) (d : D) (k : Int) (h : 1 ≤ k) (h2 : k ≤ 1000) : binS .Mult (.tup [d]) (.int k) m = some (.tup (List.replicate k.toNat d), m) := by
  have c : 1 ≤ k ∧ k ≤ 1000 ∧ [d].length ≤ 1000 ∧ [d] ≠ [] := ⟨h, h2, by simp, by simp⟩
  simp only [binS, binV]
  rw [if_pos c]
  simp
theorem rng1 {j : Int} (h : j < 1000000) (h0 : 0 ≤ j) : rngI [.int j] = some ⟨intRange 0 j.toNat, none⟩ := by
  have : -(2 ^ 62) ≤ j ∧ j < 2 ^ 62 := by omega
  simp only [rngI]
  rw [if_pos this]
theorem rng2 {i j : Int} (h : j < 1000000) (h0 : 0 ≤ j) (h1 : i < 1000000) (h2 : 0 ≤ i) : rngI [.int i, .int j] = some ⟨intRange i (j - i).toNat, none⟩ := by
  have : -(2 ^ 62) ≤ i ∧ i < 2 ^ 62 ∧ -(2 ^ 62) ≤ j ∧ j < 2 ^ 62 := by omega
  simp only [rngI]
  rw [if_pos this]
theorem rngN {k : Nat} (h : k < 1000000) : rngI [.int (k : Int)] = some ⟨intRange 0 k, none⟩ := rng1 (by omega) (by omega)
end DI

set_option Elab.async false
set_option linter.all false
set_option maxRecDepth 100000
set_option maxHeartbeats 1000000
/-! DIQ: reckoning with while, zip, comprehensions that write; whole numbers' greatest common divisors; fractions. -/
namespace DI
open PySem PySem.Spec L2
open PyProof.Rows hiding St

@[simp] theorem z_itZ (sb : Bool) (ms : M (List D)) (r : Env) (m : Sto) : mItZ sb ms r m = (ms r m).bind fun ds m1 => tO (zipI sb ds) m1 := by
  unfold mItZ
  congr 1
  funext x m1
  cases zipI sb x <;> rfl
theorem bp_tpS (ps : List P) (q : P) (ds : List D) (r : Env) (h : ps.length ≤ ds.length) : bindP (.tpS ps q) (.tup ds) r = (bindPs ps (ds.take ps.length) r).bind fun r1 => bindP q (.lst (ds.drop ps.length)) r1 := by
  simp only [bindP]; rw [if_pos h]
theorem zip_ll (sb : Bool) (xs ys : List D) (h : xs.length = ys.length) : zipI sb [.lst xs, .lst ys] = some ⟨zipD xs ys, none⟩ := by simp [zipI, seqD, h]
theorem zip_tl (sb : Bool) (xs ys : List D) (h : xs.length = ys.length) : zipI sb [.tup xs, .lst ys] = some ⟨zipD xs ys, none⟩ := by simp [zipI, seqD, h]
theorem zip_lt (sb : Bool) (xs ys : List D) (h : xs.length = ys.length) : zipI sb [.lst xs, .tup ys] = some ⟨zipD xs ys, none⟩ := by simp [zipI, seqD, h]
theorem zip_tt (sb : Bool) (xs ys : List D) (h : xs.length = ys.length) : zipI sb [.tup xs, .tup ys] = some ⟨zipD xs ys, none⟩ := by simp [zipI, seqD, h]
/-- a comprehension, from what is left -/
theorem lc_left {p : P} {mc : M Bool} {me : M D} {r : Env} {it : List D} (I : List D → List D → Sto → Prop) : ∀ {ds acc : List D} {m : Sto},
    (∀ d ds acc m, I (d :: ds) acc m → acc.length < lim ∧ ∃ r1, bindP p d r = some r1 ∧ ((∃ m1 y m2, mc r1 m = .ok true m1 ∧ me r1 m1 = .ok y m2 ∧ I ds (acc ++ [y]) m2) ∨ ∃ m1, mc r1 m = .ok false m1 ∧ I ds acc m1)) → I ds acc m →
    ∃ acc2 m2, lcL (Live ⟨it, none⟩) p mc me r ds acc m = .ok (.lst acc2) m2 ∧ I [] acc2 m2
  | [], acc, m, _, h => ⟨acc, m, by simp [lcL, Live], h⟩
  | d :: ds, acc, m, st, h => by
    obtain ⟨hl, r1, e1, q⟩ := st d ds acc m h
    rw [lcL_cons trivial, e1]
    rcases q with ⟨m1, y, m2, e2, e3, q⟩ | ⟨m1, e2, q⟩
    · obtain ⟨a2, m3, e, q3⟩ := lc_left (it := it) I (ds := ds) st q
      exact ⟨a2, m3, by simp only [e2, e3]; rw [if_pos hl]; exact e, q3⟩
    · obtain ⟨a2, m3, e, q3⟩ := lc_left (it := it) I (ds := ds) st q
      exact ⟨a2, m3, by simp only [e2]; exact e, q3⟩
theorem while_step {c : M Bool} {b : SM} {r r1 : Env} {m m1 m2 : Sto} {x : RS} {n : Nat} (hc : c r m = .ok true m1) (hb : b r m1 = .nx r1 m2) (h : whN c b n r1 m2 = x) : whN c b (n + 1) r m = x := by
  rw [whN_succ, hc]
  simp only [RS.of, if_true, hb, h]
theorem while_stop {c : M Bool} {b : SM} {r : Env} {m m1 : Sto} (hc : c r m = .ok false m1) : whN c b 1 r m = .nx r m1 := by
  rw [whN_succ, hc]
  simp [RS.of]

/-! ### fractions -/
def fr (q : Rat) : D := .tup [.int q.num, .int q.den]
theorem low_eq {t b : Int} (h : 0 < b) : (.tup [.int (t / (Int.gcd t b : Int)), .int (b / (Int.gcd t b : Int))] : D) = fr (Rat.divInt t b) := by
  have h1 := Rat.num_divInt t b
  have h2 := Rat.den_divInt t b
  have sg : b.sign = 1 := Int.sign_eq_one_of_pos h
  unfold fr
  rw [h1, h2, if_neg (by omega), sg, Int.one_mul, Int.gcd_comm b t]
  congr 4
  have : (b.natAbs : Int) = b := by omega
  rw [Int.natCast_ediv, this]
end DI
namespace DI
open PySem PySem.Spec L2
@[simp] theorem abs_i (i : Int) (m : Sto) : absO [.int i] m = some (.int (i.natAbs : Int), m) := by
  show some (D.int (if i < 0 then -i else i), m) = _
  congr 3
  split <;> omega
/-- how great a fraction's parts are -/
def Sz (k : Nat) (q : Rat) : Prop := q.num.natAbs < 2 ^ k ∧ q.den < 2 ^ k
theorem Sz.mono {j k : Nat} {q : Rat} (h : Sz j q) (l : j ≤ k) : Sz k q := ⟨Nat.lt_of_lt_of_le h.1 (Nat.pow_le_pow_right (by decide) l), Nat.lt_of_lt_of_le h.2 (Nat.pow_le_pow_right (by decide) l)⟩
theorem sz_div {t : Int} {b : Int} {k : Nat} (h : 0 < b) (ht : t.natAbs < 2 ^ k) (hb : b.natAbs < 2 ^ k) : Sz k (Rat.divInt t b) := by
  have e := low_eq (t := t) h
  unfold fr at e
  injection e with e
  simp only [List.cons.injEq, D.int.injEq, and_true] at e
  obtain ⟨e1, e2⟩ := e
  refine ⟨?_, ?_⟩
  · rw [← e1]
    exact Nat.lt_of_le_of_lt (Int.natAbs_ediv_le_natAbs _ _) ht
  · have : ((Rat.divInt t b).den : Int) ≤ b := by
      rw [← e2]
      exact Int.ediv_le_self _ (by omega)
    omega
theorem add_div (p q : Rat) : Rat.divInt (p.num * q.den + q.num * p.den) ((p.den : Int) * q.den) = p + q := by
  rw [Rat.add_def', ← Rat.divInt_ofNat, Int.natCast_mul]
theorem mul_div (p q : Rat) : Rat.divInt (p.num * q.num) ((p.den : Int) * q.den) = p * q := by
  rw [Rat.mul_def', ← Rat.divInt_ofNat, Int.natCast_mul]
theorem den_pos (q : Rat) : (0 : Int) < q.den := by have := q.den_pos; omega
theorem mul_lt {a b j k : Nat} (h : a < 2 ^ j) (g : b < 2 ^ k) : a * b < 2 ^ (j + k) := by
  rw [Nat.pow_add]
  exact Nat.lt_of_le_of_lt (Nat.mul_le_mul_left a (Nat.le_of_lt g)) (Nat.mul_lt_mul_of_pos_right h (Nat.two_pow_pos k))
theorem sz_mul {p q : Rat} {j k : Nat} (h : Sz j p) (g : Sz k q) : Sz (j + k) (p * q) := by
  rw [← mul_div]
  refine sz_div (Int.mul_pos (den_pos p) (den_pos q)) ?_ ?_
  · rw [Int.natAbs_mul]; exact mul_lt h.1 g.1
  · rw [Int.natAbs_mul]; exact mul_lt h.2 g.2
theorem sz_add {p q : Rat} {j k : Nat} (h : Sz j p) (g : Sz k q) : Sz (j + k + 1) (p + q) := by
  rw [← add_div]
  have a := mul_lt h.1 g.2
  have b := mul_lt g.1 h.2
  rw [Nat.add_comm k j] at b
  refine sz_div (Int.mul_pos (den_pos p) (den_pos q)) ?_ ?_
  · have e1 : (p.num * (q.den : Int)).natAbs = p.num.natAbs * q.den := by rw [Int.natAbs_mul]; rfl
    have e2 : (q.num * (p.den : Int)).natAbs = q.num.natAbs * p.den := by rw [Int.natAbs_mul]; rfl
    have := Int.natAbs_add_le (p.num * (q.den : Int)) (q.num * (p.den : Int))
    rw [Nat.pow_succ]; omega
  · rw [Int.natAbs_mul]
    exact Nat.lt_of_lt_of_le (mul_lt h.2 g.2) (Nat.pow_le_pow_right (by decide) (by omega))
theorem lt400 {a k : Nat} (h : a < 2 ^ k) (l : k ≤ 400) : a < 2 ^ 400 := Nat.lt_of_lt_of_le h (Nat.pow_le_pow_right (by decide) l)
theorem at_fr0 (q : Rat) : atI [D.int q.num, .int q.den] 0 = some (.int q.num) := rfl
theorem at_fr1 (q : Rat) : atI [D.int q.num, .int q.den] 1 = some (.int q.den) := rfl
end DI

set_option Elab.async false
set_option linter.all false
set_option maxRecDepth 100000
set_option maxHeartbeats 1000000
/-! DIS: texts of repr are texts; == of tuples of such. -/
namespace DI
open PySem PySem.Spec L2
open PyProof.Rows hiding St

def okS (x : Str) : Prop := ∀ c ∈ x.cps.toList, c < 0x110000
theorem okS_iff {x : Str} : PyData.strOk x = true ↔ okS x := by
  unfold PyData.strOk okS
  rw [Array.all_eq_true']
  constructor
  · intro h c hc
    have := h c (by simpa using hc)
    simpa using this
  · intro h c hc
    have := h c (by simpa using hc)
    simpa using this
theorem okS_append {x y : Str} (h : okS x) (g : okS y) : okS (x ++ y) := fun c hc => by
  have e : (x ++ y).cps = x.cps ++ y.cps := rfl
  rw [e, Array.toList_append] at hc
  exact (List.mem_append.mp hc).elim (h c) (g c)
theorem okS_of (s : String) : okS (Str.ofString s) := fun c hc => by
  rw [Str.ofString_eq_toList] at hc
  simp only [List.mem_map] at hc
  obtain ⟨ch, _, rfl⟩ := hc
  have hv := ch.valid
  rcases hv with hv | hv
  · have : ch.toNat < 0xd800 := hv
    omega
  · exact hv.2
theorem okS_empty : okS Str.empty := fun c hc => by simp [Str.empty] at hc
theorem okS_join {s : Str} (hs : okS s) : ∀ {ts : List Str}, (∀ t ∈ ts, okS t) → okS (Str.join s ts)
  | [], _ => okS_empty
  | [x], h => h x (by simp)
  | x :: y :: r, h => okS_append (okS_append (h x (by simp)) hs) (okS_join hs (ts := y :: r) fun t ht => h t (List.mem_cons_of_mem _ ht))
theorem okS_from : ∀ {ts : List Str} {k : Nat} {acc : Str}, okS acc → (∀ t ∈ ts, okS t) → okS (PySem.textFrom k acc ts)
  | [], _, _, ha, _ => ha
  | t :: ts, k, acc, ha, h => by
    unfold PySem.textFrom
    exact okS_from (ts := ts) (okS_append (okS_append ha (okS_of _)) (h t List.mem_cons_self)) fun u hu => h u (List.mem_cons_of_mem _ hu)
theorem digit_lt {c d : Nat} (h : d ∈ (Nat.toDigits 16 c).map Char.toNat) : d < 0x110000 := by
  obtain ⟨ch, _, rfl⟩ := List.mem_map.mp h
  rcases ch.valid with hv | hv
  · have : ch.toNat < 0xd800 := hv
    omega
  · exact hv.2
theorem reprChar_ok {q c : Nat} (hc : c < 0x110000) : ∀ d ∈ Builtin.Str.reprChar q c, d < 0x110000 := by
  intro d hd
  unfold Builtin.Str.reprChar at hd
  dsimp only at hd
  split at hd
  · simp only [List.mem_cons, List.not_mem_nil, or_false] at hd; omega
  split at hd
  · simp only [List.mem_cons, List.not_mem_nil, or_false] at hd; omega
  split at hd
  · simp only [List.mem_cons, List.not_mem_nil, or_false] at hd; omega
  split at hd
  · simp only [List.mem_cons, List.not_mem_nil, or_false] at hd; omega
  split at hd
  · simp only [List.mem_cons, List.not_mem_nil, or_false] at hd; omega
  split at hd
  · rcases List.mem_append.mp hd with hd | hd
    · simp only [List.mem_cons, List.not_mem_nil, or_false] at hd; omega
    · rcases List.mem_append.mp hd with hd | hd
      · have := (List.mem_replicate.mp hd).2; omega
      · exact digit_lt hd
  split at hd
  · rcases List.mem_append.mp hd with hd | hd
    · simp only [List.mem_cons, List.not_mem_nil, or_false] at hd; omega
    · rcases List.mem_append.mp hd with hd | hd
      · have := (List.mem_replicate.mp hd).2; omega
      · exact digit_lt hd
  · rcases List.mem_append.mp hd with hd | hd
    · simp only [List.mem_cons, List.not_mem_nil, or_false] at hd; omega
    · rcases List.mem_append.mp hd with hd | hd
      · have := (List.mem_replicate.mp hd).2; omega
      · exact digit_lt hd
theorem okS_repr {x : Str} (h : okS x) : okS (PySem.reprText x) := by
  have q : PySem.reprQuote x < 0x110000 := by unfold PySem.reprQuote; split <;> decide
  have key : ∀ (l : List Nat) (acc : Array Nat), (∀ c ∈ l, c < 0x110000) → (∀ c ∈ acc.toList, c < 0x110000) → ∀ c ∈ (l.foldl (fun out c => out ++ (Builtin.Str.reprChar (PySem.reprQuote x) c).toArray) acc).toList, c < 0x110000 := by
    intro l
    induction l with
    | nil => intro acc _ ha; exact ha
    | cons c l ih =>
      intro acc hl ha
      refine ih _ (fun d hd => hl d (List.mem_cons_of_mem _ hd)) fun d hd => ?_
      rw [Array.toList_append] at hd
      rcases List.mem_append.mp hd with hd | hd
      · exact ha d hd
      · exact reprChar_ok (hl c List.mem_cons_self) d (by simpa using hd)
  intro c hc
  unfold PySem.reprText at hc
  simp only [Array.toList_push, ← Array.foldl_toList] at hc
  rcases List.mem_append.mp hc with hc | hc
  · exact key _ _ h (by simpa using q) c hc
  · rw [List.mem_singleton] at hc; subst hc; exact q
mutual
theorem okS_shown : ∀ {y : PyData}, y.canLay0 = true → okS y.shown := fun {y} h => by
  match y, h with
  | .none, _ => exact okS_of _
  | .bool b, _ => cases b <;> exact okS_of _
  | .int i, _ => exact okS_of _
  | .str x, h => exact okS_repr (okS_iff.mp (by simpa [PyData.canLay0] using h))
  | .list xs, h =>
    have q := okS_shownAll (xs := xs) (by simpa [PyData.canLay0] using h)
    simp only [PyData.shown, PySem.listText]
    exact okS_append (okS_from (okS_of _) q) (okS_of _)
  | .tuple xs, h =>
    have q := okS_shownAll (xs := xs) (by simpa [PyData.canLay0] using h)
    simp only [PyData.shown, PySem.tupleText]
    exact okS_append (okS_append (okS_of _) (okS_join (okS_of _) q)) (okS_of _)
  | .dict kvs, h => simp [PyData.canLay0] at h
theorem okS_shownAll : ∀ {xs : List PyData}, PyData.canLayAll0 xs = true → ∀ t ∈ PyData.shownAll xs, okS t := fun {xs} h => by
  match xs, h with
  | [], _ => intro t ht; simp [PyData.shownAll] at ht
  | x :: xs, h =>
    simp only [PyData.canLayAll0, Bool.and_eq_true] at h
    intro t ht
    simp only [PyData.shownAll, List.mem_cons] at ht
    rcases ht with rfl | ht
    · exact okS_shown h.1
    · exact okS_shownAll h.2 t ht
end
/-- a thing that is shown, by a text -/
def Shw (d : D) : Prop := ∃ s, (∀ m, reprO [d] m = some (.str s, m)) ∧ PyData.strOk s = true
theorem shw_ok {k : Nat} (hk : 0 < k) (hk2 : k ≤ 400) {d : D} (h : okD k d = true) (hh : hD d ≤ 64) (hw : (k + 10) * wD k d + (k + 8) ≤ lim) : Shw d := by
  obtain ⟨y, e, q⟩ := toPy_ok hk hk2 h
  refine ⟨y.shown, fun m => ?_, okS_iff.mpr (okS_shown q.lay)⟩
  have l1 := PyData.shown_le (k + 8) (by omega) y q.lv
  have l2 : (k + 8 + 2) * y.weight ≤ (k + 10) * wD k d := Nat.mul_le_mul_left _ q.wt
  have hc : SeqAt.shaped y = true ∧ y.showable = true ∧ y.shown.length ≤ lim := ⟨shaped_of q hh, q.sh, by omega⟩
  cases d with
  | dct kvs => simp [okD] at h
  | _ => simp only [reprO, e]; rw [if_pos hc]
theorem shw_dct : Shw (.dct []) := ⟨_, fun m => repr_dct m, by decide +kernel⟩
/-- tuples of texts -/
theorem ne_strs {ss : List Str} (h : ∀ s ∈ ss, PyData.strOk s = true) : cmpB .NotEq (.tup (ss.map D.str)) (.tup (ss.map D.str)) = some false := by
  have o : okD 1 (.tup (ss.map D.str)) = true := by
    rw [okD_tup]
    refine okDs_all.mpr fun d hd => ?_
    obtain ⟨s, hs, rfl⟩ := List.mem_map.mp hd
    rw [okD_str]; exact h s hs
  have hh : hD (.tup (ss.map D.str)) ≤ 64 := by
    rw [hD_tup]
    have := hDs_le (B := 0) (ds := ss.map D.str) fun d hd => by
      obtain ⟨s, hs, rfl⟩ := List.mem_map.mp hd
      simp
    omega
  have e := eq_self (by decide) (by decide) o hh
  show (eqD _ _).map _ = _
  rw [e]; rfl
theorem ne_self {k : Nat} (hk : 0 < k) (hk2 : k ≤ 400) {d : D} (h : okD k d = true) (hh : hD d ≤ 64) (ns : isStrD d = false) (ni : isIntD d = false) : cmpB .NotEq d d = some false := by
  have e := eq_self hk hk2 h hh
  have key : cmpB .NotEq d d = (eqD d d).map fun r => !r := by
    cases d with
    | str => simp [isStrD] at ns
    | int => simp [isIntD] at ni
    | _ => rfl
  rw [key, e]; rfl
end DI
namespace DI
open PySem PySem.Spec L2
/-- in lowest terms, a bottom from 1 on -/
def sgD (t b : Int) : Int := if b < 0 then -(Int.gcd t b : Int) else (Int.gcd t b : Int)
def lowD (t b : Int) : D := .tup [.int (t.fdiv (sgD t b)), .int (b.fdiv (sgD t b))]
theorem gcd_ne {t b : Int} (h : b ≠ 0) (hb : b.natAbs < 2 ^ 400) : ((Int.gcd t b : Nat) : Int) ≠ 0 ∧ ((Int.gcd t b : Nat) : Int).natAbs < 2 ^ 400 := by
  have g := Int.gcd_pos_of_ne_zero_right t h
  have : Int.gcd t b ∣ b.natAbs := Nat.gcd_dvd_right _ _
  have := Nat.le_of_dvd (by omega) this
  exact ⟨by omega, by omega⟩
theorem sgD_ne {t b : Int} (h : b ≠ 0) : sgD t b ≠ 0 := by
  have g := Int.gcd_pos_of_ne_zero_right t h
  unfold sgD; split <;> omega
theorem sgD_dvd (t b : Int) : sgD t b ∣ t ∧ sgD t b ∣ b := by
  have h1 := Int.gcd_dvd_left t b
  have h2 := Int.gcd_dvd_right t b
  unfold sgD
  split
  · exact ⟨Int.neg_dvd.mpr h1, Int.neg_dvd.mpr h2⟩
  · exact ⟨h1, h2⟩
theorem low_small {t b : Int} (h : b ≠ 0) : (t.fdiv (sgD t b)).natAbs ≤ t.natAbs ∧ (b.fdiv (sgD t b)).natAbs ≤ b.natAbs := by
  obtain ⟨d1, d2⟩ := sgD_dvd t b
  rw [Int.fdiv_eq_ediv_of_dvd d1, Int.fdiv_eq_ediv_of_dvd d2]
  exact ⟨Int.natAbs_ediv_le_natAbs _ _, Int.natAbs_ediv_le_natAbs _ _⟩
theorem lowD_ok {t b : Int} {k : Nat} (h : b ≠ 0) (ht : t.natAbs < 10 ^ k) (hb : b.natAbs < 10 ^ k) : okD k (lowD t b) = true := by
  obtain ⟨h1, h2⟩ := low_small (t := t) h
  simp only [lowD, okD_tup, okDs_cons, okDs_nil, okD_int, Bool.and_true, Bool.and_eq_true, decide_eq_true_eq]
  omega
theorem lowD_shw {t b : Int} (h : b ≠ 0) (ht : t.natAbs < 10 ^ 100) (hb : b.natAbs < 10 ^ 100) : Shw (lowD t b) :=
  shw_ok (k := 100) (by decide) (by decide) (lowD_ok h ht hb) (by simp [lowD]) (by simp only [lowD, wD_tup, wDs_cons, wDs_nil, wD_int]; decide)
theorem int_shw {t : Int} (ht : t.natAbs < 10 ^ 100) : Shw (.int t) :=
  shw_ok (k := 100) (by decide) (by decide) (by rw [okD_int]; exact decide_eq_true ht) (by simp) (by rw [wD_int]; decide)
theorem low_pos {t b : Int} (h : 0 < b) : lowD t b = fr (Rat.divInt t b) := by
  rw [← low_eq h]
  have : ¬ b < 0 := by omega
  have g : (0 : Int) ≤ (Int.gcd t b : Int) := by omega
  simp only [lowD, sgD, if_neg this, Int.fdiv_eq_ediv_of_nonneg _ g]
/-- lowest terms are themselves just where there is no common divisor -/
theorem low_self {t b : Int} (h : 0 < b) : (lowD t b = .tup [.int t, .int b]) ↔ Int.gcd t b = 1 := by
  have : ¬ b < 0 := by omega
  have g := Int.gcd_pos_of_ne_zero_right t (b := b) (by omega)
  have hd : (Int.gcd t b : Int) ∣ b := Int.gcd_dvd_right t b
  simp only [lowD, sgD, if_neg this]
  constructor
  · intro e
    injection e with e
    simp only [List.cons.injEq, D.int.injEq, and_true] at e
    obtain ⟨_, e2⟩ := e
    rw [Int.fdiv_eq_ediv_of_dvd hd] at e2
    have e3 := Int.ediv_mul_cancel hd
    rw [e2] at e3
    have : b * ((Int.gcd t b : Int) - 1) = 0 := by rw [Int.mul_sub, e3]; omega
    rcases Int.mul_eq_zero.mp this with z | z
    · omega
    · omega
  · intro e
    rw [e]; simp
end DI

set_option Elab.async false
set_option linter.all false
set_option maxRecDepth 100000
set_option maxHeartbeats 1000000
/-! DIU: texts as lists of signs; cuts, parts, numbers written and read. -/
namespace DI
open PySem PySem.Spec L2
open PySem.Builtin.Str (occurrences strSub subAt partsBetween)
open PyProof.Rows hiding St

/-- the text of these signs -/
def SL (l : List Nat) : Str := ⟨l.toArray⟩
theorem sl_eta (x : Str) : x = SL x.cps.toList := by cases x; simp [SL]
@[simp] theorem sl_one (c : Nat) : (⟨#[c]⟩ : Str) = SL [c] := nr rfl
@[simp] theorem sl_cps (l : List Nat) : (SL l).cps.toList = l := by simp [SL]
theorem sl_app (a b : List Nat) : SL a ++ SL b = SL (a ++ b) := by
  show Str.mk (a.toArray ++ b.toArray) = _
  simp [SL]
theorem sl_len (a : List Nat) : (SL a).length = a.length := by show a.toArray.size = _; simp
theorem sl_inj {a b : List Nat} : SL a = SL b ↔ a = b := by simp [SL]
theorem sl_beq (a b : List Nat) : (SL a == SL b) = decide (a = b) := by
  rw [Bool.eq_iff_iff, beq_iff_eq, sl_inj, decide_eq_true_eq]
theorem sl_sub (l : List Nat) (i j : Nat) : strSub (SL l) i j = SL ((l.drop i).take (j - i)) := by
  show Str.mk (l.toArray.extract i j) = Str.mk _
  simp [List.extract_toArray]
theorem sl_of (s : String) : Str.ofString s = SL (s.toList.map Char.toNat) := Str.ofString_eq_toList s
theorem sl_sub_all (a : List Nat) : strSub (SL a) 0 a.length = SL a := by rw [sl_sub]; simp

/-- the first c -/
def cut1 (c : Nat) : List Nat → Option (List Nat × List Nat)
  | [] => none
  | d :: r => if d = c then some ([], r) else (cut1 c r).map fun p => (d :: p.1, p.2)
theorem cut1_none {c : Nat} : ∀ {l : List Nat}, cut1 c l = none → c ∉ l
  | [], _ => by simp
  | d :: r, h => by
    unfold cut1 at h
    split at h
    · cases h
    · rename_i n
      have := cut1_none (l := r) (by simpa using h)
      simp only [List.mem_cons, not_or]
      exact ⟨fun e => n e.symm, this⟩
theorem cut1_some {c : Nat} : ∀ {l a b : List Nat}, cut1 c l = some (a, b) → l = a ++ c :: b ∧ c ∉ a
  | [], _, _, h => by cases h
  | d :: r, a, b, h => by
    unfold cut1 at h
    split at h
    · rename_i n
      cases h
      exact ⟨by simp [n], by simp⟩
    · rename_i n
      obtain ⟨p, e, q⟩ := Option.map_eq_some_iff.mp h
      cases q
      obtain ⟨e1, e2⟩ := cut1_some (l := r) (a := p.1) (b := p.2) (by rw [e])
      refine ⟨by rw [e1]; rfl, ?_⟩
      simp only [List.mem_cons, not_or]
      exact ⟨fun e => n e.symm, e2⟩
theorem cut1_at {c : Nat} : ∀ {a b : List Nat}, c ∉ a → cut1 c (a ++ c :: b) = some (a, b)
  | [], b, _ => by simp [cut1]
  | d :: a, b, h => by
    simp only [List.mem_cons, not_or] at h
    have := cut1_at (b := b) h.2
    simp only [List.cons_append, cut1]
    rw [if_neg (fun e => h.1 e.symm), this]
    rfl
theorem cut1_no {c : Nat} {l : List Nat} (h : c ∉ l) : cut1 c l = none := by
  cases e : cut1 c l with
  | none => rfl
  | some p =>
    have := (cut1_some (a := p.1) (b := p.2) e).1
    rw [this] at h
    simp at h
theorem at_one (l : List Nat) (c i : Nat) : StrLaws.At (SL l) (SL [c]) (SL l).length i ↔ l[i]? = some c := by
  have := StrLaws.subAt_one (SL l) c i
  exact this
theorem part_none {c : Nat} {l : List Nat} (h : c ∉ l) : Txt.partition (SL l) (SL [c]) = (SL l, SL [], SL []) := by
  unfold Txt.partition
  rcases StrLaws.occ_head (SL l) (SL [c]) 1 (Nat.le_refl _) with ⟨e, _⟩ | ⟨i, r, e, ha, _⟩
  · rw [e]; rfl
  · exact absurd (List.mem_of_getElem? ((at_one l c i).mp ha)) h
theorem part_some {c : Nat} {a b : List Nat} (h : c ∉ a) : Txt.partition (SL (a ++ c :: b)) (SL [c]) = (SL a, SL [c], SL b) := by
  unfold Txt.partition
  rcases StrLaws.occ_head (SL (a ++ c :: b)) (SL [c]) 1 (Nat.le_refl _) with ⟨_, hn⟩ | ⟨i, r, e, ha, hn⟩
  · refine absurd ((at_one _ c a.length).mpr ?_) (hn a.length)
    simp
  · have hi := (at_one _ c i).mp ha
    have i1 : ¬ i < a.length := fun z => by
      rw [List.getElem?_append_left z] at hi
      exact h (List.mem_of_getElem? hi)
    have i2 : ¬ a.length < i := fun z => hn _ z ((at_one _ c a.length).mpr (by simp))
    have : i = a.length := by omega
    subst this
    rw [e]
    simp only [sl_sub, sl_len]
    refine Prod.ext (congrArg SL ?_) (Prod.ext rfl (congrArg SL ?_))
    · simp
    · rw [show a.length + [c].length = (a ++ [c]).length by simp, show a ++ c :: b = (a ++ [c]) ++ b by simp, List.drop_left]
      exact List.take_of_length_le (by simp; omega)
theorem in_one (c : Nat) (l : List Nat) : cmpB .In (.str (SL [c])) (.str (SL l)) = some (decide (c ∈ l)) := by
  have := StrLaws.found_one (SL l) c
  simp only [SL, List.toList_toArray] at this
  exact congrArg some this

/-! split by one sign -/
def splA (c : Nat) : List Nat → List Nat → List (List Nat)
  | acc, [] => [acc]
  | acc, d :: r => if d = c then acc :: splA c [] r else splA c (acc ++ [d]) r
def posL (c : Nat) : Nat → List Nat → List Nat
  | _, [] => []
  | k, d :: r => if d = c then k :: posL c (k + 1) r else posL c (k + 1) r
theorem posL_ge {c : Nat} : ∀ {l : List Nat} {k i : Nat}, i ∈ posL c k l → k ≤ i
  | d :: r, k, i, h => by
    unfold posL at h
    split at h
    · rcases List.mem_cons.mp h with h | h
      · omega
      · have := posL_ge h; omega
    · have := posL_ge h; omega
theorem posL_le {c : Nat} : ∀ {l : List Nat} {k : Nat}, (posL c k l).length ≤ l.length
  | [], _ => by simp [posL]
  | d :: r, k => by
    unfold posL
    split
    · simp only [List.length_cons]; exact Nat.succ_le_succ posL_le
    · simp only [List.length_cons]; exact Nat.le_succ_of_le posL_le
theorem occ_loop {x : Str} {c lim' : Nat} {l : List Nat} (hx : x = SL l) : ∀ (n k : Nat) (acc : Array Nat) (free : Nat), free ≤ k → k + n = l.length + 1 → acc.size + (posL c k (l.drop k)).length ≤ lim' →
    (forIn (List.range' k n) (acc, free) (StrLaws.occBody x (SL [c]) x.length lim')).run.fst.toList = acc.toList ++ posL c k (l.drop k)
  | 0, k, acc, free, _, hk, hl => by
    have : l.drop k = [] := List.drop_eq_nil_of_le (by omega)
    rw [this]
    simp [posL]
  | n + 1, k, acc, free, hf, hk, hl => by
    rw [List.range'_succ, List.forIn_cons]
    unfold StrLaws.occBody
    have key : (k + (SL [c]).length ≤ x.length ∧ subAt x (SL [c]) k = true) ↔ l[k]? = some c := by
      have := StrLaws.subAt_one x c k
      rw [hx] at this ⊢
      simpa [SL, -sl_one] using this
    by_cases hc : l[k]? = some c
    · have hlt := (List.getElem?_eq_some_iff.mp hc).1
      have hd : l.drop k = c :: l.drop (k + 1) := by
        rw [List.drop_eq_getElem_cons hlt, (List.getElem?_eq_some_iff.mp hc).2]
      have hp : posL c k (l.drop k) = k :: posL c (k + 1) (l.drop (k + 1)) := by rw [hd, posL, if_pos rfl]
      rw [hp, List.length_cons] at hl
      rw [if_pos ⟨⟨⟨by dsimp only; omega, hf⟩, (key.mpr hc).1⟩, (key.mpr hc).2⟩]
      have ih := occ_loop (c := c) (lim' := lim') hx n (k + 1) (acc.push k) (k + (SL [c]).length) (by rw [sl_len]; simp) (by omega) (by rw [Array.size_push]; omega)
      rw [hp]
      refine Eq.trans ih ?_
      simp
    · have hp : posL c k (l.drop k) = posL c (k + 1) (l.drop (k + 1)) := by
        by_cases hlt : k < l.length
        · rw [List.drop_eq_getElem_cons hlt, posL, if_neg]
          intro e
          exact hc (by rw [List.getElem?_eq_getElem hlt, e])
        · rw [List.drop_eq_nil_of_le (by omega), List.drop_eq_nil_of_le (by omega)]; rfl
      rw [if_neg (fun z => hc (key.mp ⟨z.1.2, z.2⟩))]
      rw [hp] at hl ⊢
      exact occ_loop (c := c) (lim' := lim') hx n (k + 1) acc free (by omega) (by omega) hl
theorem occ_one (l : List Nat) (c : Nat) : occurrences (SL l) (SL [c]) 0 (SL l).length ((SL l).length + 1) = posL c 0 l := by
  rw [StrLaws.occ_eq]
  have := occ_loop (c := c) (lim' := (SL l).length + 1) (l := l) rfl (l.length + 1) 0 #[] 0 (Nat.le_refl _) (by omega) (by
    have := posL_le (c := c) (l := l) (k := 0)
    rw [sl_len]
    simp
    omega)
  rw [sl_len] at this ⊢
  simpa using this
theorem parts_gen {c : Nat} : ∀ (l pre : List Nat) (s : Nat), s ≤ pre.length →
    ((s :: (posL c pre.length l).map (· + 1)).zip (posL c pre.length l ++ [(SL (pre ++ l)).length])).map (fun p => strSub (SL (pre ++ l)) p.1 p.2) = (splA c (pre.drop s) l).map SL
  | [], pre, s, hs => by
    simp only [posL, splA, List.map_nil, List.nil_append, List.zip_cons_cons, List.zip_nil_right, List.map_cons, List.append_nil, sl_sub, sl_len]
    rw [List.take_of_length_le (by simp)]
  | d :: r, pre, s, hs => by
    by_cases h : d = c
    · subst h
      have ih := parts_gen (c := d) r (pre ++ [d]) (pre.length + 1) (by simp)
      simp only [List.length_append, List.length_singleton, List.append_assoc, List.singleton_append] at ih
      rw [posL, if_pos rfl, splA, if_pos rfl]
      simp only [List.map_cons, List.cons_append, List.zip_cons_cons]
      rw [ih, List.drop_eq_nil_of_le (as := pre ++ [d]) (by simp)]
      congr 1
      rw [sl_sub, List.drop_append_of_le_length hs, List.take_append_of_le_length (by simp), List.take_of_length_le (by simp)]
    · have ih := parts_gen (c := c) r (pre ++ [d]) s (by simp; omega)
      simp only [List.length_append, List.length_singleton, List.append_assoc, List.singleton_append] at ih
      rw [posL, if_neg h, splA, if_neg h]
      rw [List.drop_append_of_le_length hs] at ih
      exact ih
theorem posL_nil {c : Nat} : ∀ {l acc : List Nat} {k : Nat}, posL c k l = [] → splA c acc l = [acc ++ l]
  | [], acc, k, _ => by simp [splA]
  | d :: r, acc, k, h => by
    unfold posL at h
    split at h
    · cases h
    · rename_i n
      rw [splA, if_neg n, posL_nil h]
      simp
theorem split_one {c : Nat} (hc : c < 256) (l : List Nat) : Txt.split (SL l) (SL [c]) = (splA c [] l).map SL := by
  unfold Txt.split
  have k1 : Builtin.Str.strKind (SL [c]) = 1 := by
    unfold Builtin.Str.strKind
    rw [if_pos (by simp [SL, hc, -sl_one])]
  have k2 : 1 ≤ Builtin.Str.strKind (SL l) := by
    unfold Builtin.Str.strKind
    split
    · omega
    · split <;> omega
  split
  · rename_i h
    simp only [Bool.or_eq_true, decide_eq_true_eq, sl_len, List.length_singleton] at h
    rcases h with h | h
    · have : l = [] := List.length_eq_zero_iff.mp (by omega)
      subst this
      rfl
    · omega
  · rw [occ_one]
    split
    · rename_i h
      rw [posL_nil (List.isEmpty_iff.mp h)]
      simp
    · have := parts_gen (c := c) l [] 0 (Nat.le_refl _)
      simp only [List.nil_append, List.length_nil, List.drop_nil] at this
      exact this
theorem splA_none {c : Nat} : ∀ {l acc : List Nat}, c ∉ l → splA c acc l = [acc ++ l]
  | [], acc, _ => by simp [splA]
  | d :: r, acc, h => by
    simp only [List.mem_cons, not_or] at h
    rw [splA, if_neg (fun e => h.1 e.symm), splA_none h.2]
    simp
theorem splA_some {c : Nat} : ∀ {a acc b : List Nat}, c ∉ a → splA c acc (a ++ c :: b) = (acc ++ a) :: splA c [] b
  | [], acc, b, _ => by simp [splA]
  | d :: r, acc, b, h => by
    simp only [List.mem_cons, not_or] at h
    rw [List.cons_append, splA, if_neg (fun e => h.1 e.symm), splA_some h.2]
    simp
theorem splA_pos {c : Nat} : ∀ {l acc : List Nat}, 1 ≤ (splA c acc l).length
  | [], acc => by simp [splA]
  | d :: r, acc => by
    unfold splA
    split
    · simp
    · exact splA_pos

/-! slices -/
theorem slice_sl (l : List Nat) (lo hi : Option Int) : Txt.slice (SL l) lo hi = SL (cutD l lo hi) := by
  have := sliceText_cut (SL l) lo hi
  refine Eq.trans ?_ (this.trans ?_)
  · rfl
  · unfold cutS cutD
    simp [sl_len]
    simp [SL]
theorem slO_str (l : List Nat) (lo hi : Option Int) (m : Sto) (h : l.length ≤ 1000000) : slO (.str (SL l)) lo hi m = some (.str (SL (cutD l lo hi)), m) := by
  rw [slO, slice_sl]
  exact if_pos (by rw [sl_len]; exact h)
theorem cut_to (l : List Nat) (k : Nat) : cutD l none (some (k : Int)) = l.take k := by
  unfold cutD
  rw [HT.sIx_none, HT.sIx_nat, List.drop_zero, Nat.sub_zero]
  rcases Nat.le_total k l.length with h | h
  · rw [Nat.min_eq_left h]
  · rw [Nat.min_eq_right h, List.take_of_length_le (Nat.le_refl _), List.take_of_length_le h]
theorem cut_from (l : List Nat) (k : Nat) : cutD l (some (k : Int)) none = l.drop k := by
  unfold cutD
  rw [HT.sIx_none, HT.sIx_nat]
  rcases Nat.le_total k l.length with h | h
  · rw [Nat.min_eq_left h, List.take_of_length_le (by simp)]
  · rw [Nat.min_eq_right h, List.drop_eq_nil_of_le (Nat.le_refl _), List.drop_eq_nil_of_le h]; simp

/-! numbers -/
def digs (m : Nat) : List Nat := (Nat.toDigits 10 m).map Char.toNat
def numL (n : Int) : List Nat := if n < 0 then 45 :: digs n.natAbs else digs n.natAbs
theorem num_sl (n : Int) : Str.ofString (toString n) = SL (numL n) := by
  rw [sl_of, sl_inj]
  unfold numL digs
  rw [← Nat.toList_repr]
  cases n with
  | ofNat k => rfl
  | negSucc k =>
    rw [if_pos (Int.negSucc_lt_zero k)]
    show (String.toList ("-" ++ (k + 1).repr)).map Char.toNat = _
    rw [String.toList_append]
    rfl
theorem digs_all (m : Nat) : NumText.AllDigits (digs m) := fun c hc => by
  obtain ⟨ch, h, rfl⟩ := List.mem_map.mp hc
  exact digit_range (Nat.isDigit_of_mem_toDigits (by decide) (by decide) h)
theorem digs_snoc {m : Nat} (h : 10 ≤ m) : digs m = digs (m / 10) ++ digs (m % 10) := by
  have hm : m % 10 < 10 := Nat.mod_lt m (by decide)
  have t : Nat.toDigits 10 (m / 10) ++ Nat.toDigits 10 (m % 10) = Nat.toDigits 10 (10 * (m / 10) + m % 10) := Nat.toDigits_append_toDigits (by decide) (by omega) hm
  rw [Nat.div_add_mod] at t
  unfold digs
  rw [← t, List.map_append]
theorem digs_lt {m : Nat} (h : m < 10) : digs m = [48 + m] := by
  unfold digs
  rw [Nat.toDigits_of_lt_base h]
  have : ∀ d : Nat, d < 10 → (Nat.digitChar d).toNat = 48 + d := by decide
  simp [this m h]
theorem digs_len : ∀ (k m : Nat), m < 10 ^ k → 1 ≤ k → (digs m).length ≤ k
  | 0, _, _, h => by omega
  | k + 1, m, h, _ => by
    by_cases h1 : m < 10
    · rw [digs_lt h1]; simp
    · rw [digs_snoc (by omega), List.length_append, digs_lt (Nat.mod_lt m (by decide))]
      have h2 : m / 10 < 10 ^ k := by rw [Nat.pow_succ] at h; omega
      have h3 : 1 ≤ k := by
        cases k with
        | zero => simp at h2; omega
        | succ k => omega
      have := digs_len k (m / 10) h2 h3
      simp; omega
theorem digs_pos (m : Nat) : 1 ≤ (digs m).length := by
  unfold digs
  rw [List.length_map]
  exact toDigits_len_ge 10 m
theorem digs_head : ∀ (m : Nat), m ≠ 0 → (digs m).head? ≠ some 48 := by
  intro m
  induction m using Nat.strongRecOn with
  | _ m ih =>
    intro h0
    by_cases h : m < 10
    · rw [digs_lt h]; simp; omega
    · rw [digs_snoc (by omega)]
      have := ih (m / 10) (by omega) (by omega)
      cases e : digs (m / 10) with
      | nil => have := digs_pos (m / 10); rw [e] at this; simp at this
      | cons c r => rw [e] at this; simpa using this
theorem digs_zero : digs 0 = [48] := digs_lt (by omega)
theorem digs_val (m : Nat) : NumText.digitsVal (digs m) = m := W.KIN.val_back m
def isDig (c : Nat) : Bool := decide (48 ≤ c) && decide (c ≤ 57)
theorem isDig_all {l : List Nat} : l.all isDig = true ↔ NumText.AllDigits l := by
  simp only [List.all_eq_true, isDig, Bool.and_eq_true, decide_eq_true_eq]
  exact Iff.rfl
/-- up to thirty figures, no nought ahead -/
def figs (l : List Nat) : Option Nat := if (1 ≤ l.length ∧ l.length ≤ 30) ∧ l.all isDig = true ∧ ¬ (l.head? = some 48 ∧ l ≠ [48]) then some (NumText.digitsVal l) else none
def wholeL (l : List Nat) : Option Int := if l.take 1 = [45] then (figs (l.drop 1)).bind fun n => if n = 0 then none else some (-(n : Int)) else (figs l).map fun n : Nat => (n : Int)
def fracL (l : List Nat) : Option (Int × Nat) := match cut1 47 l with
  | none => (wholeL l).map fun t => (t, 1)
  | some (a, b) => (wholeL a).bind fun t => (figs b).bind fun n => if 2 ≤ n ∧ Int.gcd t n = 1 then some (t, n) else none
theorem figs_digs {m : Nat} (h : m < 10 ^ 30) : figs (digs m) = some m := by
  unfold figs
  rw [if_pos, digs_val]
  refine ⟨⟨digs_pos m, digs_len 30 m h (by decide)⟩, isDig_all.mpr (digs_all m), fun z => ?_⟩
  by_cases h0 : m = 0
  · subst h0; exact z.2 digs_zero
  · exact digs_head m h0 z.1
theorem digs_ne {c : Nat} (h : ¬ (48 ≤ c ∧ c ≤ 57)) (m : Nat) : c ∉ digs m := fun z => h (digs_all m c z)
theorem wholeL_num {n : Int} (h : n.natAbs < 10 ^ 30) : wholeL (numL n) = some n := by
  unfold wholeL numL
  by_cases hn : n < 0
  · simp only [hn, if_true, List.take_succ_cons, List.take_zero, List.drop_succ_cons, List.drop_zero]
    rw [figs_digs h]
    have : n.natAbs ≠ 0 := by omega
    simp only [Option.bind_some, this, if_false]
    congr 1; omega
  · simp only [hn, if_false]
    rw [if_neg, figs_digs h]
    · exact congrArg some (Int.natAbs_of_nonneg (by omega))
    · intro e
      have hm : 45 ∈ digs n.natAbs := List.mem_of_mem_take (by rw [e]; simp)
      exact digs_ne (by omega) _ hm
theorem num_no {c : Nat} (h : ¬ (48 ≤ c ∧ c ≤ 57)) (h2 : c ≠ 45) (n : Int) : c ∉ numL n := by
  unfold numL
  split
  · simp only [List.mem_cons, not_or]; exact ⟨h2, digs_ne h _⟩
  · exact digs_ne h _
def shownL (t : Int) (b : Nat) : List Nat := if b = 1 then numL t else numL t ++ 47 :: numL b
theorem fracL_shown {t : Int} {b : Nat} (ht : t.natAbs < 10 ^ 30) (hb : b < 10 ^ 30) (h1 : 1 ≤ b) (hg : Int.gcd t b = 1) : fracL (shownL t b) = some (t, b) := by
  unfold fracL shownL
  by_cases h : b = 1
  · subst h
    rw [if_pos rfl, cut1_no (num_no (by omega) (by omega) t)]
    simp [wholeL_num ht]
  · rw [if_neg h, cut1_at (num_no (by omega) (by omega) t)]
    have e : numL (b : Int) = digs b := by unfold numL; rw [if_neg (by omega)]; simp
    simp only [wholeL_num ht, e, figs_digs hb, Option.bind_some]
    rw [if_pos ⟨by omega, hg⟩]
theorem int_figs {l : List Nat} {n : Nat} (h : figs l = some n) : PySem.intText? (SL l) = some (n : Int) := by
  unfold figs at h
  split at h
  · rename_i c
    cases h
    have e : (SL l).cps.toList = l := by simp [SL]
    have := intText_digits (x := SL l) (by rw [e]; exact isDig_all.mp c.2.1) (by rw [e]; intro z; rw [z] at c; simp at c) (by rw [sl_len]; omega)
    rw [e] at this
    exact this
  · cases h
theorem numL_len {n : Int} {k : Nat} (h : n.natAbs < 10 ^ k) (hk : 1 ≤ k) : (numL n).length ≤ k + 1 := by
  have := digs_len k _ h hk
  unfold numL
  split
  · simp; omega
  · omega
theorem str_num {n : Int} (h : n.natAbs < 2 ^ 400) (m : Sto) : strO [.int n] m = some (.str (SL (numL n)), m) := by
  have := log_small h
  have q : n.natAbs.log2 < 1920 := by omega
  rw [← num_sl]
  exact if_pos q
theorem fmt_num {n : Int} (h : n.natAbs < 2 ^ 400) (m : Sto) : fmtO (.int n) m = some (.str (SL (numL n)), m) := by
  have := log_small h
  have q : n.natAbs.log2 < 1920 := by omega
  rw [← num_sl]
  exact if_pos q
def optN : Option Nat → D
  | some n => .int n
  | none => .non
def optI : Option Int → D
  | some n => .int n
  | none => .non
@[simp] theorem optN_some (n : Nat) : optN (some n) = .int n := nr rfl
@[simp] theorem optN_none : optN none = .non := nr rfl
@[simp] theorem optI_some (n : Int) : optI (some n) = .int n := nr rfl
@[simp] theorem optI_none : optI none = .non := nr rfl
theorem lenO_sl {l : List Nat} (h : l.length ≤ 1000000) (m : Sto) : lenO [.str (SL l)] m = some (.int l.length, m) := by
  have : (SL l).length ≤ lim := by rw [sl_len]; exact h
  unfold lenO
  dsimp only
  rw [if_pos this, sl_len]
theorem i_sl (l : List Nat) (m : Sto) : itV (.str (SL l)) m = some ⟨l.map fun c => .str (SL [c]), none⟩ := by
  rw [i_str, sl_cps]; rfl
theorem x_sl {l : List Nat} {i : Int} {c : Nat} (h : l.length ≤ 1000000) (e : atI l i = some c) (m : Sto) : ixO (.str (SL l)) (.int i) m = some (.str (SL [c]), m) := by
  have : (SL l).length ≤ lim := by rw [sl_len]; exact h
  unfold ixO
  dsimp only
  rw [if_pos this, sl_cps, e]; rfl
theorem int_sl {l : List Nat} {n : Nat} (h : figs l = some n) (m : Sto) : intO [.str (SL l)] m = some (.int n, m) := by
  have hl : l.length ≤ 30 := by
    unfold figs at h
    split at h
    · rename_i c; exact c.1.2
    · cases h
  have : (SL l).length ≤ 640 := by rw [sl_len]; omega
  unfold intO
  dsimp only
  rw [if_pos this, int_figs h]; rfl
theorem bls_map {α : Type} (f : α → Bool) : ∀ (l : List α), blsOf (l.map fun x => D.bl (f x)) = some (l.map f)
  | [] => rfl
  | x :: l => by simp only [List.map_cons, blsOf, bls_map f l, Option.map_some]
theorem all_bls {α : Type} (f : α → Bool) (l : List α) (m : Sto) : allO [.lst (l.map fun x => D.bl (f x))] m = some (.bl (l.all f), m) := by
  unfold allO
  dsimp only
  rw [bls_map]
  simp [List.all_map]
theorem at0 {α : Type} (c : α) (r : List α) : atI (c :: r) 0 = some c := by
  unfold atI ixN
  simp
theorem lit_digits : Str.ofString "0123456789" = SL [48, 49, 50, 51, 52, 53, 54, 55, 56, 57] := by decide +kernel
theorem lit_0 : Str.ofString "0" = SL [48] := by decide +kernel
theorem lit_minus : Str.ofString "-" = SL [45] := by decide +kernel
theorem lit_stroke : Str.ofString "/" = SL [47] := by decide +kernel
theorem lit_e : Str.ofString "" = SL [] := by decide +kernel
theorem in_digits (c : Nat) : cmpB .In (.str (SL [c])) (.str (Str.ofString "0123456789")) = some (isDig c) := by
  rw [lit_digits, in_one]
  congr 1
  rw [Bool.eq_iff_iff, decide_eq_true_eq]
  simp only [isDig, Bool.and_eq_true, decide_eq_true_eq, List.mem_cons, List.not_mem_nil, or_false]
  omega
theorem ofS_nil : (SL [] : Str) = Str.empty := rfl
theorem jsO_e {l : List Nat} (h : l.length ≤ 1000000) (as : List (M D)) (r : Env) (m : Sto) : jsO as Str.empty r (.str (SL l)) m = mJs as (SL l) r m := by
  rw [jsO_str _ _ _ _ _ (by rw [← ofS_nil, sl_app, sl_len]; simpa using h), ← ofS_nil, sl_app]; rfl
theorem jsO_sl {a l : List Nat} (h : a.length + l.length ≤ 1000000) (as : List (M D)) (r : Env) (m : Sto) : jsO as (SL a) r (.str (SL l)) m = mJs as (SL (a ++ l)) r m := by
  rw [jsO_str _ _ _ _ _ (by rw [sl_app, sl_len]; simpa using h), sl_app]
theorem at_memG {α : Type} {xs : List α} {i : Int} (h0 : 0 ≤ i) (h : i < xs.length) : ∃ d, atI xs i = some d ∧ d ∈ xs := by
  have hl : i.toNat < xs.length := by omega
  refine ⟨xs[i.toNat], ?_, List.getElem_mem hl⟩
  unfold atI ixN
  have : 0 ≤ i ∧ i < xs.length := ⟨h0, h⟩
  simp [this, hl]
theorem v_strMul (x : Str) (k : Int) (m : Sto) (h : 2 ≤ k ∧ k ≤ 1000 ∧ 1 ≤ x.length ∧ x.length ≤ 1000) : binS .Mult (.str x) (.int k) m = some (.str (repS x k), m) := by
  simp only [binS, binV]
  rw [if_pos h]; rfl
def lowS (x : Str) : Bool := decide (x.cps.size ≤ 900) && x.cps.toList.all fun c => decide (c < 128)
end DI

set_option Elab.async false
set_option linter.all false
set_option maxRecDepth 100000
set_option maxHeartbeats 2000000
/-! DPR: programs of the text as data: rows, stands, exits, by numbers. -/
namespace DI
open PySem PySem.Spec L2

/-! ### words -/
theorem ofS_inj {a b : String} (h : Str.ofString a = Str.ofString b) : a = b := by
  rw [sl_of, sl_of, sl_inj] at h
  have : a.toList = b.toList := by
    refine List.map_inj_right (f := Char.toNat) (fun x y e => ?_) |>.mp h
    exact Char.ext (UInt32.toNat_inj.mp e)
  exact String.toList_inj.mp this
@[simp] theorem ofS_beq (a b : String) : (Str.ofString a == Str.ofString b) = decide (a = b) := by
  rw [Bool.eq_iff_iff, beq_iff_eq, decide_eq_true_eq]
  exact ⟨ofS_inj, fun h => by rw [h]⟩
@[simp] theorem ofS_eq (a b : String) : (Str.ofString a = Str.ofString b) = (a = b) := propext ⟨ofS_inj, fun h => by rw [h]⟩
theorem c_inT (d : D) (xs : List D) : cmpB .In d (.tup xs) = inFl d xs := by cases d <;> rfl
theorem c_inL (d : D) (xs : List D) : cmpB .In d (.lst xs) = inFl d xs := by cases d <;> rfl
theorem c_ninT (d : D) (xs : List D) : cmpB .NotIn d (.tup xs) = (inFl d xs).map fun r => !r := by cases d <;> rfl
theorem c_ninL (d : D) (xs : List D) : cmpB .NotIn d (.lst xs) = (inFl d xs).map fun r => !r := by cases d <;> rfl
theorem inFl_strs (x : Str) (xs : List Str) : inFl (.str x) (xs.map .str) = some (xs.any fun y => y == x) := by
  have h : (xs.map D.str).all isBase = true := by rw [List.all_map]; exact List.all_eq_true.mpr fun _ _ => rfl
  unfold inFl
  rw [h]
  simp only [isBase, Bool.and_self, if_true, List.any_map]
  rfl
theorem any_beq {x : Str} {xs : List Str} : (xs.any fun y => y == x) = decide (x ∈ xs) := by
  rw [Bool.eq_iff_iff, List.any_eq_true, decide_eq_true_eq]
  constructor
  · rintro ⟨y, h, e⟩
    rw [beq_iff_eq] at e; subst e; exact h
  · exact fun h => ⟨x, h, by simp⟩
theorem in_strsL (x : Str) (xs : List Str) : cmpB .In (.str x) (.lst (xs.map .str)) = some (decide (x ∈ xs)) := by rw [c_inL, inFl_strs, any_beq]
theorem in_strsT (x : Str) (xs : List Str) : cmpB .In (.str x) (.tup (xs.map .str)) = some (decide (x ∈ xs)) := by rw [c_inT, inFl_strs, any_beq]

/-! ### places in lists -/
theorem at_last (X : List D) (y : D) : atI (X ++ [y]) (-1) = some y := by
  unfold atI ixN
  have h4 : (-1 + ((X.length : Int) + 1)).toNat = X.length := by omega
  have h5 : (1 : Int) ≤ X.length + 1 := by omega
  simp [h4, h5]
theorem at_last2 (X : List D) (x y : D) : atI (X ++ [x, y]) (-2) = some x := by
  unfold atI ixN
  have h4 : (-2 + ((X.length : Int) + 2)).toNat = X.length := by omega
  have h5 : (2 : Int) ≤ X.length + 2 := by omega
  simp [h4, h5]
theorem cut_last (X : List D) (y : D) : cutD (X ++ [y]) none (some (-1)) = X := by
  unfold cutD HT.sIx
  have h4 : (-1 + ((X.length : Int) + 1)).toNat = X.length := by omega
  simp [h4]
theorem bp_M1 (q p : P) (X : List D) (y : D) (r : Env) : bindP (.tpM q [p]) (.tup (X ++ [y])) r = (bindP q (.lst X) r).bind fun r1 => bindP p y r1 := by
  rw [bindP]
  have h1 : [p].length ≤ (X ++ [y]).length := by simp
  have h2 : (X ++ [y]).length - [p].length = X.length := by simp
  have h3 : (X ++ [y]).take X.length = X := by simp
  have h4 : (X ++ [y]).drop X.length = [y] := by simp
  simp only [h1, if_true, h2, h3, h4]
  cases bindP q (.lst X) r with
  | none => rfl
  | some r1 => simp [bindPs]

/-! ### rows, programs -/
abbrev Wsh := Str × List Int
inductive Rw where
  | set (b : Nat) (l : List Int) | read (b : Nat) | want (w : Wsh) | claim (w : Wsh) | test (w : Wsh) (r : Nat) | either (rs : List Nat) | jump (r : Nat) | call (p : Nat) | fin
structure Prog where
  bx : List Str
  pn : List Str
  rs : List (List Rw)
abbrev lnI (l : List Int) : D := .tup (l.map .int)
abbrev wsI (w : Wsh) : D := .tup [.str w.1, lnI w.2]
def sAt (l : List Str) (i : Nat) : Str := l.getD i Str.empty
theorem sAt_eq {l : List Str} {i : Nat} (h : i < l.length) : sAt l i = l[i] := by simp [sAt, List.getElem?_eq_getElem h]
theorem sAt_mem {l : List Str} {i : Nat} (h : i < l.length) : sAt l i ∈ l := by rw [sAt_eq h]; exact List.getElem_mem h
def Rw.D (bx pn : List Str) : Rw → D
  | .set b l => .tup [.str "set", .str (sAt bx b), lnI l]
  | .read b => .tup [.str "read", .str (sAt bx b)]
  | .want w => .tup [.str "want", wsI w]
  | .claim w => .tup [.str "claim", wsI w]
  | .test w r => .tup [.str "test", wsI w, .int r]
  | .either rs => .tup [.str "either", .tup (rs.map fun (r : Nat) => D.int r)]
  | .jump r => .tup [.str "jump", .int r]
  | .call p => .tup [.str "call", .str (sAt pn p)]
  | .fin => .tup [.str "end"]
abbrev Prog.boxesD (P : Prog) : DI.D := .lst (P.bx.map .str)
abbrev rowsD (bx pn : List Str) (rows : List Rw) : List DI.D := rows.map (Rw.D bx pn)
abbrev partD (bx pn : List Str) (p : Str × List Rw) : DI.D := .tup [.str p.1, .lst (rowsD bx pn p.2)]
def Prog.partsL (P : Prog) : List DI.D := (P.pn.zip P.rs).map (partD P.bx P.pn)
abbrev Prog.D (P : Prog) : DI.D := .tup [P.boxesD, .lst P.partsL]

def WOk (k s : Nat) (w : Wsh) : Prop := (w.1 = "least" ∨ w.1 = "above") ∧ w.2.length = s + 1 ∧ ∀ i ∈ w.2, i.natAbs < 10 ^ k
def Rw.ok (k s np part many : Nat) : Rw → Prop
  | .set b l => b < s ∧ l.length = s + 1 ∧ ∀ i ∈ l, i.natAbs < 10 ^ k
  | .read b => b < s
  | .want w => WOk k s w
  | .claim w => WOk k s w
  | .test w r => WOk k s w ∧ r < many
  | .either rs => 2 ≤ rs.length ∧ rs.length ≤ 4 ∧ ∀ r ∈ rs, r < many
  | .jump r => r < many
  | .call p => part < p ∧ p < np
  | .fin => True
def Rw.last : Rw → Bool
  | .either _ => true | .jump _ => true | .fin => true
  | _ => false
def NmOk (x : Str) : Prop := ∃ l, x = SL l ∧ 1 ≤ l.length ∧ l.length ≤ 6 ∧ ∀ c ∈ l, 97 ≤ c ∧ c ≤ 122
structure RowsOk (k s np part : Nat) (rows : List Rw) : Prop where
  l1 : 1 ≤ rows.length
  l2 : rows.length ≤ 24
  ok : ∀ r ∈ rows, r.ok k s np part rows.length
  la : ∀ i r, rows[i]? = some r → i + 1 = rows.length → r.last = true
structure Prog.Ok (k : Nat) (P : Prog) : Prop where
  k1 : 2 ≤ k
  k2 : k ≤ 100
  b1 : 1 ≤ P.bx.length
  b2 : P.bx.length ≤ 8
  bn : P.bx.Nodup
  bk : ∀ x ∈ P.bx, NmOk x
  p1 : 1 ≤ P.pn.length
  p2 : P.pn.length ≤ 6
  pd : P.pn.Nodup
  pk : ∀ x ∈ P.pn, NmOk x
  len : P.rs.length = P.pn.length
  rk : ∀ (p : Nat) rows, P.rs[p]? = some rows → RowsOk k P.bx.length P.pn.length p rows
theorem parts_len {k : Nat} {P : Prog} (h : P.Ok k) : P.partsL.length = P.pn.length := by
  simp [Prog.partsL, h.len]
theorem parts_at {k : Nat} {P : Prog} (h : P.Ok k) {p : Nat} {rows : List Rw} (e : P.rs[p]? = some rows) : P.partsL[p]? = some (.tup [.str (sAt P.pn p), .lst (rowsD P.bx P.pn rows)]) := by
  have hp := (List.getElem?_eq_some_iff.mp e).1
  have hq : p < P.pn.length := by rw [← h.len]; exact hp
  have z : (P.pn.zip P.rs)[p]? = some (sAt P.pn p, rows) := List.getElem?_zip_eq_some.mpr ⟨by rw [List.getElem?_eq_getElem hq, sAt_eq hq], e⟩
  simp [Prog.partsL, z]

/-! ### stands and exits -/
inductive Deed where
  | none | set (b : Nat) (l : List Int) | read (b : Nat)
def Deed.D : Deed → D
  | .none => .non
  | .set b l => .tup [.str "set", .int b, lnI l]
  | .read b => .tup [.str "read", .int b]
inductive Stand where
  | at (o : List (Nat × Nat)) (p r : Nat) | ended | failed
abbrev plD (p : Nat × Nat) : D := .tup [.int p.1, .int p.2]
abbrev atD (X : List D) (p r : Nat) : D := .tup [.str "at", .tup (X ++ [.tup [.int p, .int r]])]
def Stand.D : Stand → D
  | .at o p r => atD (o.map plD) p r
  | .ended => .tup [.str "ended"]
  | .failed => .tup [.str "failed"]
abbrev begin_ : Stand := .at [] 0 0
def Prog.row (P : Prog) (p r : Nat) : Option Rw := (P.rs[p]?).bind fun rows => rows[r]?
inductive Chn (P : Prog) : List (Nat × Nat) → Nat → Prop
  | nil : Chn P [] 0
  | snoc {o : List (Nat × Nat)} {p r q : Nat} : Chn P o p → P.row p r = some (.call q) → Chn P (o ++ [(p, r)]) q
def Stand.ok (P : Prog) : Stand → Prop
  | .at o p r => Chn P o p ∧ ∃ row, P.row p r = some row
  | _ => True
structure Out where
  w : Option Wsh
  d : Deed
  s : Stand
def ownI : Option Wsh → D
  | some w => wsI w
  | none => .non
abbrev Out.D (o : Out) : D := .tup [ownI o.w, o.d.D, o.s.D]
def othW (w : Str) : Str := if (w == "least") = true then "above" else "least"
def negW (w : Wsh) : Wsh := (othW w.1, w.2.map fun c => 0 - c)
def endS (o : List (Nat × Nat)) : Stand := match o.getLast? with
  | none => .ended
  | some q => .at o.dropLast q.1 (q.2 + 1)
def outsR (o : List (Nat × Nat)) (p r : Nat) : Rw → List Out
  | .set b l => [⟨none, .set b l, .at o p (r + 1)⟩]
  | .read b => [⟨none, .read b, .at o p (r + 1)⟩]
  | .want w => [⟨some w, .none, .at o p (r + 1)⟩]
  | .claim w => [⟨some w, .none, .at o p (r + 1)⟩, ⟨some (negW w), .none, .failed⟩]
  | .test w q => [⟨some w, .none, .at o p (r + 1)⟩, ⟨some (negW w), .none, .at o p q⟩]
  | .either rs => rs.map fun q => ⟨none, .none, .at o p q⟩
  | .jump q => [⟨none, .none, .at o p q⟩]
  | .call q => [⟨none, .none, .at (o ++ [(p, r)]) q 0⟩]
  | .fin => [⟨none, .none, endS o⟩]
def outs (P : Prog) : Stand → List Out
  | .at o p r => (match P.row p r with
    | some row => outsR o p r row
    | none => [])
  | _ => []
theorem row_ok {k : Nat} {P : Prog} (h : P.Ok k) {p r : Nat} {row : Rw} (e : P.row p r = some row) : ∃ rows, P.rs[p]? = some rows ∧ rows[r]? = some row ∧ row.ok k P.bx.length P.pn.length p rows.length ∧ (r + 1 = rows.length → row.last = true) ∧ r < rows.length ∧ rows.length ≤ 24 := by
  obtain ⟨rows, e1, e2⟩ := Option.bind_eq_some_iff.mp e
  have q := h.rk p rows e1
  exact ⟨rows, e1, e2, q.ok row (List.mem_of_getElem? e2), fun z => q.la r row e2 z, (List.getElem?_eq_some_iff.mp e2).1, q.l2⟩
theorem row_nx {k : Nat} {P : Prog} (h : P.Ok k) {p r : Nat} {row : Rw} (e : P.row p r = some row) (n : row.last = false) : ∃ row', P.row p (r + 1) = some row' := by
  obtain ⟨rows, e1, e2, _, l, hr, _⟩ := row_ok h e
  have : r + 1 < rows.length := by
    rcases Nat.lt_or_ge (r + 1) rows.length with z | z
    · exact z
    · have := l (by omega); rw [n] at this; cases this
  exact ⟨rows[r + 1], by simp [Prog.row, e1, List.getElem?_eq_getElem this]⟩
theorem row_in {k : Nat} {P : Prog} (h : P.Ok k) {p r q : Nat} {row : Rw} (e : P.row p r = some row) (hq : ∀ rows, P.rs[p]? = some rows → q < rows.length) : ∃ row', P.row p q = some row' := by
  obtain ⟨rows, e1, e2, _, l, hr, _⟩ := row_ok h e
  exact ⟨rows[q]'(hq rows e1), by simp [Prog.row, e1, List.getElem?_eq_getElem (hq rows e1)]⟩
theorem chn_le {k : Nat} {P : Prog} (h : P.Ok k) : ∀ {o : List (Nat × Nat)} {p : Nat}, Chn P o p → o.length ≤ p ∧ p < P.pn.length
  | _, _, .nil => ⟨by simp, h.p1⟩
  | _, _, .snoc c e => by
    obtain ⟨h1, h2⟩ := chn_le h c
    obtain ⟨_, _, _, ⟨k1, k2⟩, _⟩ := row_ok h e
    rw [List.length_append, List.length_singleton]
    exact ⟨by omega, k2⟩
theorem chn_len {k : Nat} {P : Prog} (h : P.Ok k) {o : List (Nat × Nat)} {p : Nat} (c : Chn P o p) : o.length ≤ 5 := by
  have := chn_le h c; have := h.p2; omega
theorem begin_ok {k : Nat} {P : Prog} (h : P.Ok k) : begin_.ok P := by
  refine ⟨.nil, ?_⟩
  have hl : 0 < P.rs.length := by rw [h.len]; exact h.p1
  have q := h.rk 0 _ (List.getElem?_eq_getElem hl)
  exact ⟨P.rs[0][0]'q.l1, by simp [Prog.row, List.getElem?_eq_getElem hl, List.getElem?_eq_getElem q.l1]⟩
theorem endS_nil : endS [] = .ended := rfl
theorem endS_snoc (o : List (Nat × Nat)) (p r : Nat) : endS (o ++ [(p, r)]) = .at o p (r + 1) := by simp [endS]
theorem outs_ok {k : Nat} {P : Prog} (h : P.Ok k) : ∀ {s : Stand}, s.ok P → ∀ o ∈ outs P s, o.s.ok P
  | .ended, _, o, ho => by simp [outs] at ho
  | .failed, _, o, ho => by simp [outs] at ho
  | .at o p r, ⟨c, row, e⟩, x, hx => by
    simp only [outs, e] at hx
    obtain ⟨rows, e1, e2, rk, l, hr, h24⟩ := row_ok h e
    have nx : row.last = false → Stand.ok P (.at o p (r + 1)) := fun z => ⟨c, row_nx h e z⟩
    have jm : ∀ q, q < rows.length → Stand.ok P (.at o p q) := fun q hq => ⟨c, row_in h e fun rows' e' => by rw [e1] at e'; cases e'; exact hq⟩
    cases row with
    | set b l => simp only [outsR, List.mem_singleton] at hx; subst hx; exact nx rfl
    | read b => simp only [outsR, List.mem_singleton] at hx; subst hx; exact nx rfl
    | want w => simp only [outsR, List.mem_singleton] at hx; subst hx; exact nx rfl
    | claim w =>
      simp only [outsR, List.mem_cons, List.not_mem_nil, or_false] at hx
      rcases hx with rfl | rfl
      · exact nx rfl
      · trivial
    | test w q =>
      simp only [outsR, List.mem_cons, List.not_mem_nil, or_false] at hx
      rcases hx with rfl | rfl
      · exact nx rfl
      · exact jm q rk.2
    | either rs =>
      simp only [outsR, List.mem_map] at hx
      obtain ⟨q, hq, rfl⟩ := hx
      exact jm q (rk.2.2 q hq)
    | jump q => simp only [outsR, List.mem_singleton] at hx; subst hx; exact jm q rk
    | call q =>
      simp only [outsR, List.mem_singleton] at hx; subst hx
      refine ⟨.snoc c e, ?_⟩
      have hl : q < P.rs.length := by rw [h.len]; exact rk.2
      have z := h.rk q _ (List.getElem?_eq_getElem hl)
      exact ⟨P.rs[q][0]'z.l1, by simp [Prog.row, List.getElem?_eq_getElem hl, List.getElem?_eq_getElem z.l1]⟩
    | fin =>
      simp only [outsR, List.mem_singleton] at hx; subst hx
      cases c with
      | nil => trivial
      | snoc c' e' => rw [endS_snoc]; exact ⟨c', row_nx h e' rfl⟩
theorem outs_len {k : Nat} {P : Prog} (h : P.Ok k) {s : Stand} (hs : s.ok P) : (outs P s).length ≤ 4 := by
  cases s with
  | ended => simp [outs]
  | failed => simp [outs]
  | «at» o p r =>
    obtain ⟨c, row, e⟩ := hs
    obtain ⟨_, _, _, rk, _⟩ := row_ok h e
    simp only [outs, e]
    cases row <;> simp [outsR]
    exact rk.2.1
end DI

set_option Elab.async false
set_option linter.all false
set_option maxRecDepth 100000
set_option maxHeartbeats 9000000
/-! DPS: plain data of any form, looks at rows; helpers for walks. -/
namespace DI
open PySem PySem.Spec L2

/-! ### plain data -/
def Nc (d : D) : Prop := ∃ k, 1 ≤ k ∧ k ≤ 100 ∧ okD k d = true ∧ hD d ≤ 20 ∧ wD k d ≤ 900000
theorem Nc.fz {d : D} (h : Nc d) : isFz d = true := let ⟨_, _, _, h, _⟩ := h; okD_fz h
theorem Nc.tup {xs : List D} (h : Nc (.tup xs)) : (∀ x ∈ xs, Nc x) ∧ xs.length ≤ 900000 := by
  obtain ⟨k, k1, k2, h1, h2, h3⟩ := h
  rw [okD_tup] at h1; rw [hD_tup] at h2; rw [wD_tup] at h3
  exact ⟨fun x hx => ⟨k, k1, k2, okDs_all.mp h1 x hx, Nat.le_trans (hD_mem hx) (by omega), Nat.le_trans (wD_mem hx) h3⟩, Nat.le_trans (len_wDs (k := k)) h3⟩
theorem Nc.lst {xs : List D} (h : Nc (.lst xs)) : (∀ x ∈ xs, Nc x) ∧ xs.length ≤ 900000 := by
  obtain ⟨k, k1, k2, h1, h2, h3⟩ := h
  rw [okD_lst] at h1; rw [hD_lst] at h2; rw [wD_lst] at h3
  exact ⟨fun x hx => ⟨k, k1, k2, okDs_all.mp h1 x hx, Nat.le_trans (hD_mem hx) (by omega), Nat.le_trans (wD_mem hx) h3⟩, Nat.le_trans (len_wDs (k := k)) h3⟩
theorem Nc.str {x : Str} (h : Nc (.str x)) : x.cps.size ≤ 900000 := by
  obtain ⟨k, k1, k2, h1, h2, h3⟩ := h
  rwa [wD_str] at h3
theorem Nc.nil_eq {xs : List D} (h : Nc (.tup xs)) : eqD (.lst xs) (.lst []) = some xs.isEmpty := by
  obtain ⟨k, k1, k2, h1, h2, h3⟩ := h
  rw [okD_tup] at h1; rw [hD_tup] at h2
  exact eq_empty k1 (by omega) h1 (by omega)
theorem Nc.tail {x : D} {xs : List D} (h : Nc (.tup (x :: xs))) : Nc (.tup xs) := by
  obtain ⟨k, k1, k2, h1, h2, h3⟩ := h
  rw [okD_tup, okDs_cons, Bool.and_eq_true] at h1; rw [hD_tup, hDs_cons] at h2; rw [wD_tup, wDs_cons] at h3
  exact ⟨k, k1, k2, by rw [okD_tup]; exact h1.2, by rw [hD_tup]; omega, by rw [wD_tup]; omega⟩

/-! ### looks, as told of any thing -/
def lineB (s : Int) : D → Bool
  | .tup xs => decide ((xs.length : Int) = s + 1) && xs.all isIntD
  | _ => false
def inW (w : Str) : Bool := (("least" : Str) == w) || (("above" : Str) == w)
def wishB (s : Int) : D → Bool
  | .tup [.str w, e] => inW w && lineB s e
  | _ => false
def nameB : D → Bool
  | .str x => decide (1 ≤ x.cps.size) && decide (x.cps.size ≤ 6) && x.cps.toList.all fun c => decide (97 ≤ c) && decide (c ≤ 122)
  | _ => false
def nameC : D → Bool
  | .str x => x.cps.toList.all fun c => decide (97 ≤ c) && decide (c ≤ 122)
  | _ => false
def boxB (bx : List Str) : D → Bool
  | .str x => decide (x ∈ bx)
  | _ => false
def numB (many : Int) : D → Bool
  | .int i => decide (0 ≤ i) && decide (i < many)
  | _ => false
def roadsB (many : Int) : D → Bool
  | .tup xs => (decide (2 ≤ (xs.length : Int)) && decide ((xs.length : Int) ≤ 4)) && xs.all (numB many)
  | _ => false
def arg1 (f : D → Bool) : List D → Bool
  | [a] => f a
  | _ => false
def arg2 (f g : D → Bool) : List D → Bool
  | [a, b] => f a && g b
  | _ => false
def rowB (bx beh : List Str) (many : Int) : D → Bool
  | .tup (.str w :: rest) =>
    if w = "set" then arg2 (boxB bx) (lineB bx.length) rest else if w = "read" then arg1 (boxB bx) rest else if w = "want" ∨ w = "claim" then arg1 (wishB bx.length) rest
    else if w = "test" then arg2 (wishB bx.length) (numB many) rest else if w = "either" then arg1 (roadsB many) rest else if w = "jump" then arg1 (numB many) rest
    else if w = "call" then arg1 (boxB beh) rest else decide (w = "end") && rest.isEmpty
  | _ => false

/-! ### walks -/
theorem inW_t (w : Str) : cmpB .In (.str w) (.tup [.str "least", .str "above"]) = some (inW w) := by
  show inFl _ _ = _
  simp [inFl, isBase, eqFl, inW]
theorem inW_l (w : Str) : cmpB .In (.str w) (.lst [.str "least", .str "above"]) = some (inW w) := inW_t w
section
variable {α : Type}
@[simp] theorem at_c0 (a : α) (l : List α) : atI (a :: l) 0 = some a := nr (at0 a l)
@[simp] theorem at_c1 (a b : α) (l : List α) : atI (a :: b :: l) 1 = some b := by
  have h : (1 : Int) < (l.length : Int) + 1 + 1 := by omega
  simp [atI, ixN, h]
@[simp] theorem at_c2 (a b c : α) (l : List α) : atI (a :: b :: c :: l) 2 = some c := by
  have h : (2 : Int) < (l.length : Int) + 1 + 1 + 1 := by omega
  simp [atI, ixN, h]
end
/-- a comprehension of all things -/
theorem lc_map {p : P} {me : M D} {r : Env} {m : Sto} (g : D → D) {it ds : List D} (st : ∀ d ∈ ds, ∃ r1, bindP p d r = some r1 ∧ me r1 m = .ok (g d) m) (hl : ds.length ≤ 1000000) : lcL (Live ⟨it, none⟩) p mYes me r ds [] m = .ok (.lst (ds.map g)) m := by
  have := lc_pure (p := p) (mc := mYes) (me := me) (r := r) (m := m) (fun _ => true) g (it := it) (ds := ds) (acc := []) (fun d hd => by
    obtain ⟨r1, e1, e2⟩ := st d hd
    exact ⟨r1, e1, rfl, fun _ => e2⟩) (by unfold lim; simpa using hl)
  rw [this, List.filter_eq_self.mpr (fun _ _ => rfl)]; simp
theorem all_D (f : D → Bool) (ds : List D) (m : Sto) : allO [.lst (ds.map fun d => .bl (f d))] m = some (.bl (ds.all f), m) := all_bls f ds m
theorem lit_abc : Str.ofString "abcdefghijklmnopqrstuvwxyz" = SL (List.range' 97 26) := by decide +kernel
theorem in_abc (c : Nat) : cmpB .In (.str (SL [c])) (.str (Str.ofString "abcdefghijklmnopqrstuvwxyz")) = some (decide (97 ≤ c) && decide (c ≤ 122)) := by
  rw [lit_abc, in_one]
  congr 1
  rw [Bool.eq_iff_iff, decide_eq_true_eq, Bool.and_eq_true, decide_eq_true_eq, decide_eq_true_eq, List.mem_range'_1]
  omega
/-! stores that only grow, but for a pool -/
structure Fr (l : Nat) (m m' : Sto) : Prop where
  le : m.length ≤ m'.length
  st : ∀ j, j < m.length → j ≠ l → m'[j]? = m[j]?
theorem Fr.refl (l : Nat) (m : Sto) : Fr l m m := ⟨Nat.le_refl _, fun _ _ _ => rfl⟩
theorem Fr.trans {l : Nat} {m m1 m2 : Sto} (a : Fr l m m1) (b : Fr l m1 m2) : Fr l m m2 := ⟨Nat.le_trans a.le b.le, fun j h n => (b.st j (Nat.lt_of_lt_of_le h a.le) n).trans (a.st j h n)⟩
theorem Fr.app (l : Nat) (m X : Sto) : Fr l m (m ++ X) := ⟨by simp, fun j h _ => List.getElem?_append_left h⟩
theorem Fr.set {l j : Nat} {m m' : Sto} {o : O} (a : Fr l m m') (h : m.length ≤ j) : Fr l m (m'.set j o) := ⟨by rw [List.length_set]; exact a.le, fun i hi n => by rw [List.getElem?_set_ne (by omega)]; exact a.st i hi n⟩
theorem Fr.of_take {l : Nat} {m m' : Sto} (h : m'.length = m.length) (st : ∀ j, j ≠ l → m'[j]? = m[j]?) : Fr l m m' := ⟨by omega, fun j _ n => st j n⟩
theorem at_strs {xs : List Str} {r : Int} (h0 : 0 ≤ r) (h1 : r < xs.length) : atI (xs.map D.str) r = some (.str (sAt xs r.toNat)) := by
  have hl : r.toNat < xs.length := by omega
  exact at_int h0 (by rw [List.getElem?_map, List.getElem?_eq_getElem hl, sAt_eq hl]; rfl)
theorem NmOk.ok {x : Str} (h : NmOk x) (k : Nat) : okD k (.str x) = true ∧ x.cps.size ≤ 6 := by
  obtain ⟨l, rfl, l1, l2, hc⟩ := h
  refine ⟨?_, by simpa [SL] using l2⟩
  rw [okD_str, okS_iff]
  intro c hc'
  have := hc c (by simpa [SL] using hc')
  omega
theorem NmOk.nameB {x : Str} (h : NmOk x) : nameB (.str x) = true := by
  obtain ⟨l, rfl, l1, l2, hc⟩ := h
  simp only [DI.nameB, SL, List.size_toArray, Bool.and_eq_true, decide_eq_true_eq, List.all_eq_true]
  exact ⟨⟨l1, l2⟩, fun c hc' => hc c (by simpa using hc')⟩
theorem NmOk.nc {x : Str} (h : NmOk x) : Nc (.str x) := ⟨1, by decide, by decide, (h.ok 1).1, by simp, by rw [wD_str]; have := (h.ok 1).2; omega⟩
end DI

set_option Elab.async false
set_option linter.all false
set_option maxRecDepth 100000
set_option maxHeartbeats 2000000
/-! DPT: == of plain data; numbered things; how great programs are. -/
namespace DI
open PySem PySem.Spec L2

/-! ### == -/
mutual
def dEq : D → D → Bool
  | .non, .non => true
  | .bl a, .bl b => a == b
  | .bl a, .int j => (if a then 1 else 0) == j
  | .int i, .bl b => i == (if b then 1 else 0)
  | .int i, .int j => i == j
  | .str x, .str y => x == y
  | .lst xs, .lst ys => dEqs xs ys
  | .tup xs, .tup ys => dEqs xs ys
  | _, _ => false
def dEqs : List D → List D → Bool
  | [], [] => true
  | x :: xs, y :: ys => dEq x y && dEqs xs ys
  | _, _ => false
end
@[simp] theorem dEq_str (x y : Str) : dEq (.str x) (.str y) = (x == y) := by simp [dEq]
@[simp] theorem dEq_int (x y : Int) : dEq (.int x) (.int y) = (x == y) := by simp [dEq]
@[simp] theorem dEq_tup (x y : List D) : dEq (.tup x) (.tup y) = dEqs x y := by simp [dEq]
@[simp] theorem dEq_lst (x y : List D) : dEq (.lst x) (.lst y) = dEqs x y := by simp [dEq]
@[simp] theorem dEqs_nil : dEqs [] [] = true := by simp [dEqs]
@[simp] theorem dEqs_cons (x y : D) (xs ys : List D) : dEqs (x :: xs) (y :: ys) = (dEq x y && dEqs xs ys) := by simp [dEqs]
@[simp] theorem dEqs_l (x : D) (xs : List D) : dEqs (x :: xs) [] = false := by simp [dEqs]
@[simp] theorem dEqs_r (x : D) (xs : List D) : dEqs [] (x :: xs) = false := by simp [dEqs]
theorem toPys_cons {x : D} {xs : List D} {z : List PyData} (e : toPys (x :: xs) = some z) : ∃ a b, toPy x = some a ∧ toPys xs = some b ∧ z = a :: b := by
  simp only [toPys] at e
  cases h1 : toPy x with
  | none => rw [h1] at e; simp at e
  | some a =>
    cases h2 : toPys xs with
    | none => rw [h1, h2] at e; simp at e
    | some b => rw [h1, h2] at e; simp only [Option.some.injEq] at e; exact ⟨a, b, rfl, rfl, e.symm⟩
mutual
theorem eqv_dEq : ∀ {a b : D} {x y : PyData}, toPy a = some x → toPy b = some y → x.canLay0 = true → y.canLay0 = true → PyData.eqv x y = dEq a b := fun {a b x y} ha hb lx ly => by
  match a, ha with
  | .non, ha => cases b <;> simp only [toPy, Option.some.injEq, Option.map_eq_some_iff] at ha hb <;> first | (subst ha hb; simp [PyData.eqv, dEq]; done) | (obtain ⟨_, _, rfl⟩ := hb; subst ha; simp [PyData.eqv, dEq]; done) | cases hb
  | .bl _, ha => cases b <;> simp only [toPy, Option.some.injEq, Option.map_eq_some_iff] at ha hb <;> first | (subst ha hb; simp [PyData.eqv, dEq]; done) | (obtain ⟨_, _, rfl⟩ := hb; subst ha; simp [PyData.eqv, dEq]; done) | cases hb
  | .int _, ha => cases b <;> simp only [toPy, Option.some.injEq, Option.map_eq_some_iff] at ha hb <;> first | (subst ha hb; simp [PyData.eqv, dEq]; done) | (obtain ⟨_, _, rfl⟩ := hb; subst ha; simp [PyData.eqv, dEq]; done) | cases hb
  | .str _, ha => cases b <;> simp only [toPy, Option.some.injEq, Option.map_eq_some_iff] at ha hb <;> first | (subst ha hb; simp [PyData.eqv, dEq]; done) | (obtain ⟨_, _, rfl⟩ := hb; subst ha; simp [PyData.eqv, dEq]; done) | cases hb
  | .tup xs, ha =>
    simp only [toPy, Option.map_eq_some_iff] at ha
    obtain ⟨zs, h1, rfl⟩ := ha
    match b, hb with
    | .tup ys, hb =>
      simp only [toPy, Option.map_eq_some_iff] at hb
      obtain ⟨ws, h2, rfl⟩ := hb
      simp only [PyData.eqv, dEq]
      exact eqv_dEqs h1 h2 (by simpa [PyData.canLay0] using lx) (by simpa [PyData.canLay0] using ly)
    | .non, hb => simp only [toPy, Option.some.injEq] at hb; subst hb; simp [PyData.eqv, dEq]
    | .bl _, hb => simp only [toPy, Option.some.injEq] at hb; subst hb; simp [PyData.eqv, dEq]
    | .int _, hb => simp only [toPy, Option.some.injEq] at hb; subst hb; simp [PyData.eqv, dEq]
    | .str _, hb => simp only [toPy, Option.some.injEq] at hb; subst hb; simp [PyData.eqv, dEq]
    | .lst _, hb => simp only [toPy, Option.map_eq_some_iff] at hb; obtain ⟨_, _, rfl⟩ := hb; simp [PyData.eqv, dEq]
    | .dct _, hb => simp only [toPy, Option.map_eq_some_iff] at hb; obtain ⟨_, _, rfl⟩ := hb; simp [PyData.canLay0] at ly
    | .ref _, hb | .fn _, hb | .cls _, hb | .ty _, hb | .exc _ _, hb => simp [toPy] at hb
  | .lst xs, ha =>
    simp only [toPy, Option.map_eq_some_iff] at ha
    obtain ⟨zs, h1, rfl⟩ := ha
    match b, hb with
    | .lst ys, hb =>
      simp only [toPy, Option.map_eq_some_iff] at hb
      obtain ⟨ws, h2, rfl⟩ := hb
      simp only [PyData.eqv, dEq]
      exact eqv_dEqs h1 h2 (by simpa [PyData.canLay0] using lx) (by simpa [PyData.canLay0] using ly)
    | .non, hb => simp only [toPy, Option.some.injEq] at hb; subst hb; simp [PyData.eqv, dEq]
    | .bl _, hb => simp only [toPy, Option.some.injEq] at hb; subst hb; simp [PyData.eqv, dEq]
    | .int _, hb => simp only [toPy, Option.some.injEq] at hb; subst hb; simp [PyData.eqv, dEq]
    | .str _, hb => simp only [toPy, Option.some.injEq] at hb; subst hb; simp [PyData.eqv, dEq]
    | .tup _, hb => simp only [toPy, Option.map_eq_some_iff] at hb; obtain ⟨_, _, rfl⟩ := hb; simp [PyData.eqv, dEq]
    | .dct _, hb => simp only [toPy, Option.map_eq_some_iff] at hb; obtain ⟨_, _, rfl⟩ := hb; simp [PyData.canLay0] at ly
    | .ref _, hb | .fn _, hb | .cls _, hb | .ty _, hb | .exc _ _, hb => simp [toPy] at hb
  | .dct _, ha => simp only [toPy, Option.map_eq_some_iff] at ha; obtain ⟨_, _, rfl⟩ := ha; simp [PyData.canLay0] at lx
  | .ref _, ha | .fn _, ha | .cls _, ha | .ty _, ha | .exc _ _, ha => simp [toPy] at ha
theorem eqv_dEqs : ∀ {a b : List D} {x y : List PyData}, toPys a = some x → toPys b = some y → PyData.canLayAll0 x = true → PyData.canLayAll0 y = true → PyData.eqvAll x y = dEqs a b := fun {a b x y} ha hb lx ly => by
  match a, b, ha, hb with
  | [], [], ha, hb => simp only [toPys, Option.some.injEq] at ha hb; subst ha hb; simp [PyData.eqvAll]
  | [], c :: d, ha, hb =>
    obtain ⟨_, _, _, _, rfl⟩ := toPys_cons hb
    simp only [toPys, Option.some.injEq] at ha; subst ha; simp [PyData.eqvAll]
  | c :: d, [], ha, hb =>
    obtain ⟨_, _, _, _, rfl⟩ := toPys_cons ha
    simp only [toPys, Option.some.injEq] at hb; subst hb; simp [PyData.eqvAll]
  | c :: d, e :: f, ha, hb =>
    obtain ⟨p, q, h1, h2, rfl⟩ := toPys_cons ha
    obtain ⟨p', q', h3, h4, rfl⟩ := toPys_cons hb
    simp only [PyData.canLayAll0, Bool.and_eq_true] at lx ly
    simp only [PyData.eqvAll, dEqs_cons, eqv_dEq h1 h3 lx.1 ly.1, eqv_dEqs h2 h4 lx.2 ly.2]
end
theorem Nc.py {d : D} (h : Nc d) : ∃ y, toPy d = some y ∧ y.canLay0 = true ∧ SeqAt.shaped y = true := by
  obtain ⟨k, k1, k2, h1, h2, h3⟩ := h
  obtain ⟨y, e, q⟩ := toPy_ok (k := k) (by omega) (by omega) h1
  exact ⟨y, e, q.lay, shaped_of q (by omega)⟩
theorem eqD_nc {a b : D} (ha : Nc a) (hb : Nc b) : eqD a b = some (dEq a b) := by
  obtain ⟨x, e1, l1, s1⟩ := ha.py
  obtain ⟨y, e2, l2, s2⟩ := hb.py
  unfold eqD
  simp only [e1, e2, s1, s2, Bool.and_self, if_true, eqv_dEq e1 e2 l1 l2]
theorem cEq_nc {a b : D} (ha : Nc a) (hb : Nc b) : cmpB .Eq a b = some (dEq a b) := by
  have key : cmpB .Eq a b = eqD a b ∨ (∃ x y, a = .str x ∧ b = .str y) ∨ ∃ x y, a = .int x ∧ b = .int y := by
    cases a <;> cases b <;> first | exact .inl rfl | exact .inr (.inl ⟨_, _, rfl, rfl⟩) | exact .inr (.inr ⟨_, _, rfl, rfl⟩)
  rcases key with k | ⟨x, y, rfl, rfl⟩ | ⟨x, y, rfl, rfl⟩
  · rw [k, eqD_nc ha hb]
  · simp
  · simp
theorem cNe_nc {a b : D} (ha : Nc a) (hb : Nc b) : cmpB .NotEq a b = some (!dEq a b) := by
  have key : cmpB .NotEq a b = (eqD a b).map (fun r => !r) ∨ (∃ x y, a = .str x ∧ b = .str y) ∨ ∃ x y, a = .int x ∧ b = .int y := by
    cases a <;> cases b <;> first | exact .inl rfl | exact .inr (.inl ⟨_, _, rfl, rfl⟩) | exact .inr (.inr ⟨_, _, rfl, rfl⟩)
  rcases key with k | ⟨x, y, rfl, rfl⟩ | ⟨x, y, rfl, rfl⟩
  · rw [k, eqD_nc ha hb]; rfl
  · simp
  · simp
theorem eqFl_dEq {a b : D} (ha : isBase a = true) (hb : isBase b = true) : eqFl a b = dEq a b := by
  cases a <;> simp [isBase] at ha <;> cases b <;> simp [isBase] at hb <;> simp [eqFl, dEq]
theorem toPys_of {xs : List D} {y : PyData} (h : toPy (.tup xs) = some y) : ∃ ys, toPys xs = some ys ∧ y = .tuple ys := by
  simp only [toPy, Option.map_eq_some_iff] at h
  obtain ⟨ys, e, rfl⟩ := h
  exact ⟨ys, e, rfl⟩
theorem any_dEq {x : D} {p : PyData} (hx : toPy x = some p) (lp : p.canLay0 = true) : ∀ {xs : List D} {ys : List PyData}, toPys xs = some ys → PyData.canLayAll0 ys = true → (ys.any fun z => PyData.eqv z p) = xs.any fun z => dEq z x
  | [], ys, e, _ => by simp only [toPys, Option.some.injEq] at e; subst e; rfl
  | c :: d, ys, e, l => by
    obtain ⟨a, b, h1, h2, rfl⟩ := toPys_cons e
    simp only [PyData.canLayAll0, Bool.and_eq_true] at l
    simp only [List.any_cons, eqv_dEq h1 hx l.1 lp, any_dEq hx lp h2 l.2]
/-- membership of plain data -/
theorem inDp_nc {x : D} {xs : List D} (t : Bool) (hx : Nc x) (hs : Nc (.tup xs)) : inDp t x xs = some (xs.any fun z => dEq z x) := by
  unfold inDp
  cases e : inFl x xs with
  | some r =>
    simp only
    unfold inFl at e
    split at e
    · rename_i c
      rw [Bool.and_eq_true, List.all_eq_true] at c
      cases e
      congr 1
      rw [Bool.eq_iff_iff, List.any_eq_true, List.any_eq_true]
      exact ⟨fun ⟨z, h1, h2⟩ => ⟨z, h1, by rw [← eqFl_dEq (c.2 z h1) c.1]; exact h2⟩, fun ⟨z, h1, h2⟩ => ⟨z, h1, by rw [eqFl_dEq (c.2 z h1) c.1]; exact h2⟩⟩
    · cases e
  | none =>
    simp only
    obtain ⟨p, e1, l1, s1⟩ := hx.py
    obtain ⟨q, e2, l2, s2⟩ := hs.py
    obtain ⟨ys, e3, rfl⟩ := toPys_of e2
    have s3 : SeqAt.shaped (if t = true then PyData.tuple ys else .list ys) = true := by
      cases t with
      | true => exact s2
      | false =>
        simp only [SeqAt.shaped, PyData.canLay0, PyData.depth] at s2 ⊢
        exact s2
    simp only [e1, e3, Option.bind_some, s1, s3, Bool.and_self, if_true]
    exact congrArg some (any_dEq e1 l1 e3 (by simpa [PyData.canLay0] using l2))
theorem inR_lst {x y : D} {xs : List D} {m : Sto} (h : rsv y m = .lst xs) (hx : Nc x) (hs : Nc (.tup xs)) : inR x y m = some (xs.any fun z => dEq z x) := by
  unfold inR; rw [h]; exact inDp_nc false hx hs
theorem inR_tup {x : D} {xs : List D} {m : Sto} (hx : Nc x) (hs : Nc (.tup xs)) : inR x (.tup xs) m = some (xs.any fun z => dEq z x) := by
  unfold inR
  have : rsv (.tup xs) m = .tup xs := rfl
  rw [this]; exact inDp_nc true hx hs
theorem Nc.of_lst {xs : List D} (h : Nc (.lst xs)) : Nc (.tup xs) := by
  obtain ⟨k, k1, k2, h1, h2, h3⟩ := h
  exact ⟨k, k1, k2, by simpa using h1, by simpa using h2, by simpa using h3⟩
theorem Nc.to_lst {xs : List D} (h : Nc (.tup xs)) : Nc (.lst xs) := by
  obtain ⟨k, k1, k2, h1, h2, h3⟩ := h
  exact ⟨k, k1, k2, by simpa using h1, by simpa using h2, by simpa using h3⟩
theorem dEq_refl_nc {a : D} (h : Nc a) : dEq a a = true := by
  obtain ⟨k, k1, k2, h1, h2, h3⟩ := h
  have e := eq_self (k := k) (by omega) (by omega) h1 (by omega)
  rw [eqD_nc ⟨k, k1, k2, h1, h2, h3⟩ ⟨k, k1, k2, h1, h2, h3⟩] at e
  exact Option.some.inj e

/-! ### numbered things -/
def enF (i : Nat) (xs : List D) : List D := (xs.zipIdx i).map fun p => .tup [.int (p.2 : Nat), p.1]
theorem enumD_F (xs : List D) : enumD xs = enF 0 xs := rfl
@[simp] theorem enF_nil (i : Nat) : enF i [] = [] := rfl
theorem enF_cons (i : Nat) (x : D) (xs : List D) : enF i (x :: xs) = .tup [.int (i : Nat), x] :: enF (i + 1) xs := by simp [enF, List.zipIdx_cons]
theorem enF_some {i : Nat} {xs : List D} {d : D} {ds : List D} (h : d :: ds = enF i xs) : ∃ x r, xs = x :: r ∧ d = .tup [.int (i : Nat), x] ∧ ds = enF (i + 1) r := by
  cases xs with
  | nil => cases h
  | cons x r => rw [enF_cons] at h; cases h; exact ⟨x, r, rfl, rfl, rfl⟩
theorem enF_none {i : Nat} {xs : List D} (h : ([] : List D) = enF i xs) : xs = [] := by
  cases xs with
  | nil => rfl
  | cons x r => rw [enF_cons] at h; cases h
/-- names with their numbers -/
def kvN (i : Nat) (ns : List Str) : List (D × D) := (ns.zipIdx i).map fun p => (.str p.1, .int (p.2 : Nat))
theorem kvN_cons (i : Nat) (x : Str) (ns : List Str) : kvN i (x :: ns) = (.str x, .int (i : Nat)) :: kvN (i + 1) ns := by simp [kvN, List.zipIdx_cons]
theorem dGet_kvN_none {x : Str} : ∀ {ns : List Str} {i : Nat}, x ∉ ns → dGet (kvN i ns) (.str x) = none
  | [], _, _ => rfl
  | y :: ns, i, h => by
    rw [List.mem_cons, not_or] at h
    rw [kvN_cons, dGet_cons, if_neg (fun z => h.1 z.symm)]
    exact dGet_kvN_none h.2
theorem dGet_kvN {x : Str} : ∀ {ns : List Str} {i j : Nat}, ns.Nodup → ns[j]? = some x → dGet (kvN i ns) (.str x) = some (.int ((i + j : Nat)))
  | [], _, j, _, h => by simp at h
  | y :: ns, i, 0, _, h => by
    simp at h; subst h
    rw [kvN_cons]; simp [dGet]
  | y :: ns, i, j + 1, nd, h => by
    rw [List.nodup_cons] at nd
    have h : ns[j]? = some x := by simpa using h
    have ne : ¬ y = x := fun z => nd.1 (by rw [z]; exact List.mem_of_getElem? h)
    rw [kvN_cons, dGet_cons, if_neg ne, dGet_kvN nd.2 h]
    congr 3; omega
theorem kvN_snoc (i : Nat) : ∀ (ns : List Str) (x : Str), kvN i (ns ++ [x]) = kvN i ns ++ [(.str x, .int ((i + ns.length : Nat)))]
  | [], x => by simp [kvN]
  | y :: ns, x => by
    rw [List.cons_append, kvN_cons, kvN_cons, kvN_snoc (i + 1) ns x, List.cons_append, List.length_cons]
    congr 5; omega
theorem cutN_to {α : Type} (l : List α) (k : Nat) : cutD l none (some (k : Int)) = l.take k := by
  unfold cutD
  rw [HT.sIx_none, HT.sIx_nat, List.drop_zero, Nat.sub_zero]
  rcases Nat.le_total k l.length with h | h
  · rw [Nat.min_eq_left h]
  · rw [Nat.min_eq_right h, List.take_of_length_le (Nat.le_refl _), List.take_of_length_le h]
theorem cutN_from {α : Type} (l : List α) (k : Nat) : cutD l (some (k : Int)) none = l.drop k := by
  unfold cutD
  rw [HT.sIx_none, HT.sIx_nat]
  rcases Nat.le_total k l.length with h | h
  · rw [Nat.min_eq_left h, List.take_of_length_le (by simp)]
  · rw [Nat.min_eq_right h, List.drop_eq_nil_of_le (Nat.le_refl _), List.drop_eq_nil_of_le h]; simp
theorem set_snoc {α : Type} (m : List α) (a b : α) : (m ++ [a]).set m.length b = m ++ [b] := by
  rw [List.set_append_right _ _ (Nat.le_refl _)]; simp
theorem get_snoc {α : Type} (m : List α) (a : α) : (m ++ [a])[m.length]? = some a := by simp
end DI

set_option Elab.async false
set_option linter.all false
set_option maxRecDepth 100000
set_option maxHeartbeats 2000000
/-! DPU: how great programs, stands and exits are; rows are rows. -/
namespace DI
open PySem PySem.Spec L2

theorem ints_ok {k : Nat} {l : List Int} (h : ∀ i ∈ l, i.natAbs < 10 ^ k) : okDs k (l.map .int) = true := okDs_all.mpr fun d hd => by
  obtain ⟨i, hi, rfl⟩ := List.mem_map.mp hd
  rw [okD_int]; exact decide_eq_true (h i hi)
theorem ints_w (k : Nat) : ∀ l : List Int, wDs k (l.map .int) = l.length * (4 * k + 1)
  | [] => by simp
  | i :: l => by rw [List.map_cons, wDs_cons, wD_int, ints_w k l, List.length_cons, Nat.add_mul]; omega
theorem ints_h (l : List Int) : hDs (l.map .int) = 0 := Nat.le_zero.mp (hDs_le fun d hd => by
  obtain ⟨i, _, rfl⟩ := List.mem_map.mp hd; simp)
theorem intsI_all (l : List Int) : (l.map D.int).all isIntD = true := by rw [List.all_map]; exact List.all_eq_true.mpr fun _ _ => rfl
theorem okS_lit (k : Nat) (s : String) : okD k (.str (Str.ofString s)) = true := by rw [okD_str, okS_iff]; exact okS_of s
theorem p100 {k : Nat} (h : 2 ≤ k) : 100 ≤ 10 ^ k := by
  have := Nat.pow_le_pow_right (show 0 < 10 by decide) h
  simpa using this
theorem nat_ok {k r : Nat} (hk : 2 ≤ k) (h : r < 100) : okD k (.int (r : Int)) = true := by
  rw [okD_int]; exact decide_eq_true (by have := p100 hk; omega)
theorem nats_ok {k : Nat} (hk : 2 ≤ k) {rs : List Nat} (h : ∀ r ∈ rs, r < 100) : okDs k (rs.map fun (r : Nat) => D.int r) = true := okDs_all.mpr fun d hd => by
  obtain ⟨i, hi, rfl⟩ := List.mem_map.mp hd
  exact nat_ok hk (h i hi)
theorem nats_w (k : Nat) : ∀ rs : List Nat, wDs k (rs.map fun (r : Nat) => D.int r) = rs.length * (4 * k + 1)
  | [] => by simp
  | i :: l => by rw [List.map_cons, wDs_cons, wD_int, nats_w k l, List.length_cons, Nat.add_mul]; omega
theorem nats_h (l : List Nat) : hDs (l.map fun (r : Nat) => D.int r) = 0 := Nat.le_zero.mp (hDs_le fun d hd => by
  obtain ⟨i, _, rfl⟩ := List.mem_map.mp hd; simp)
theorem wlit (k : Nat) (s : String) (n : Nat) (h : s.toList.length = n) : wD k (.str (Str.ofString s)) = n := by
  rw [wD_str, sl_of]; simp [SL, h]
structure Sml (k h w : Nat) (d : D) : Prop where
  ok : okD k d = true
  ht : hD d ≤ h
  wt : wD k d ≤ w
theorem Sml.nc {k h w : Nat} {d : D} (s : Sml k h w d) (k1 : 1 ≤ k) (k2 : k ≤ 100) (h2 : h ≤ 20) (w2 : w ≤ 900000) : Nc d := ⟨k, k1, k2, s.ok, Nat.le_trans s.ht h2, Nat.le_trans s.wt w2⟩
theorem Sml.mono {k h w h' w' : Nat} {d : D} (s : Sml k h w d) (a : h ≤ h') (b : w ≤ w') : Sml k h' w' d := ⟨s.ok, Nat.le_trans s.ht a, Nat.le_trans s.wt b⟩
theorem Sml.int {k : Nat} {i : Int} (h : i.natAbs < 10 ^ k) : Sml k 0 (4 * k) (.int i) := ⟨by rw [okD_int]; exact decide_eq_true h, by simp, by simp⟩
theorem Sml.nat {k r : Nat} (hk : 2 ≤ k) (h : r < 100) : Sml k 0 (4 * k) (.int (r : Int)) := ⟨nat_ok hk h, by simp, by simp⟩
theorem Sml.lit {k : Nat} (s : String) (n : Nat) (h : s.toList.length ≤ n) : Sml k 0 n (.str (Str.ofString s)) := ⟨okS_lit k s, by simp, by rw [wlit k s _ rfl]; exact h⟩
theorem Sml.nm {k : Nat} {x : Str} (h : NmOk x) : Sml k 0 6 (.str x) := ⟨(h.ok k).1, by simp, by rw [wD_str]; exact (h.ok k).2⟩
theorem Sml.tup1 {k h w : Nat} {a : D} (s : Sml k h w a) : Sml k (h + 1) (w + 1) (.tup [a]) := ⟨by simp [s.ok], by simp; exact s.ht, by simp; exact s.wt⟩
theorem Sml.tup2 {k h w h' w' : Nat} {a b : D} (s : Sml k h w a) (t : Sml k h' w' b) : Sml k (max h h' + 1) (w + w' + 2) (.tup [a, b]) := ⟨by simp [s.ok, t.ok], by have := s.ht; have := t.ht; simp; omega, by have := s.wt; have := t.wt; simp; omega⟩
theorem Sml.tup3 {k h w h' w' h'' w'' : Nat} {a b c : D} (s : Sml k h w a) (t : Sml k h' w' b) (u : Sml k h'' w'' c) : Sml k (max h (max h' h'') + 1) (w + w' + w'' + 3) (.tup [a, b, c]) := ⟨by simp [s.ok, t.ok, u.ok], by have := s.ht; have := t.ht; have := u.ht; simp; omega, by have := s.wt; have := t.wt; have := u.wt; simp; omega⟩
theorem Sml.tups {k h w : Nat} {ds : List D} (s : ∀ d ∈ ds, Sml k h w d) : Sml k (h + 1) (ds.length * (w + 1)) (.tup ds) := ⟨by rw [okD_tup]; exact okDs_all.mpr fun d hd => (s d hd).ok, by rw [hD_tup]; have := hDs_le fun d hd => (s d hd).ht; omega, by rw [wD_tup]; exact wDs_le fun d hd => (s d hd).wt⟩
theorem Sml.lsts {k h w : Nat} {ds : List D} (s : ∀ d ∈ ds, Sml k h w d) : Sml k (h + 1) (ds.length * (w + 1)) (.lst ds) := ⟨by rw [okD_lst]; exact okDs_all.mpr fun d hd => (s d hd).ok, by rw [hD_lst]; have := hDs_le fun d hd => (s d hd).ht; omega, by rw [wD_lst]; exact wDs_le fun d hd => (s d hd).wt⟩
theorem Sml.non {k : Nat} : Sml k 0 0 .non := ⟨by simp, by simp, by simp⟩
theorem Sml.shw {k h w : Nat} {d : D} (s : Sml k h w d) (k1 : 1 ≤ k) (k2 : k ≤ 400) (h2 : h ≤ 64) (w2 : (k + 10) * w + (k + 8) ≤ 1000000) : Shw d :=
  shw_ok (k := k) (by omega) k2 s.ok (Nat.le_trans s.ht h2) (Nat.le_trans (Nat.add_le_add_right (Nat.mul_le_mul_left _ s.wt) _) w2)

/-! lines, wishes, rows -/
theorem ln_sml {k : Nat} {l : List Int} {n : Nat} (hl : l.length ≤ n) (h : ∀ i ∈ l, i.natAbs < 10 ^ k) : Sml k 1 (n * (4 * k + 1)) (lnI l) := by
  have := Sml.tups (k := k) (h := 0) (w := 4 * k) (ds := l.map .int) fun d hd => by
    obtain ⟨i, hi, rfl⟩ := List.mem_map.mp hd
    exact Sml.int (h i hi)
  rw [List.length_map] at this
  exact this.mono (by omega) (Nat.mul_le_mul_right _ hl)
theorem ws_sml {k s : Nat} {w : Wsh} (h : WOk k s w) (hs : s ≤ 8) : Sml k 2 (36 * k + 17) (wsI w) := by
  obtain ⟨h1, h2, h3⟩ := h
  have a : Sml k 0 5 (.str w.1) := by rcases h1 with h1 | h1 <;> rw [h1] <;> exact Sml.lit _ 5 (by decide)
  have b := ln_sml (k := k) (n := 9) (by omega) h3
  exact (a.tup2 b).mono (by omega) (by omega)
theorem row_sml {k s np part many : Nat} {bx pn : List Str} {r : Rw} (hk : 2 ≤ k) (h : r.ok k s np part many) (hs : s = bx.length) (hs8 : s ≤ 8) (hn : np = pn.length) (hm : many ≤ 100) (hb : ∀ x ∈ bx, NmOk x) (hp : ∀ x ∈ pn, NmOk x) : Sml k 3 (40 * k + 50) (r.D bx pn) := by
  subst hs hn
  cases r with
  | set b l =>
    obtain ⟨h1, h2, h3⟩ := h
    exact ((Sml.lit "set" 6 (by decide)).tup3 (Sml.nm (hb _ (sAt_mem h1))) (ln_sml (n := 9) (by omega) h3)).mono (by omega) (by omega)
  | read b => exact ((Sml.lit "read" 6 (by decide)).tup2 (Sml.nm (hb _ (sAt_mem h)))).mono (by omega) (by omega)
  | want w => exact ((Sml.lit "want" 6 (by decide)).tup2 (ws_sml h hs8)).mono (by omega) (by omega)
  | claim w => exact ((Sml.lit "claim" 6 (by decide)).tup2 (ws_sml h hs8)).mono (by omega) (by omega)
  | test w q => exact ((Sml.lit "test" 6 (by decide)).tup3 (ws_sml h.1 hs8) (Sml.nat hk (by have := h.2; omega))).mono (by omega) (by omega)
  | either rs =>
    obtain ⟨h1, h2, h3⟩ := h
    have t := Sml.tups (k := k) (h := 0) (w := 4 * k) (ds := rs.map fun (r : Nat) => D.int r) fun d hd => by
      obtain ⟨i, hi, rfl⟩ := List.mem_map.mp hd
      exact Sml.nat hk (by have := h3 i hi; omega)
    rw [List.length_map] at t
    exact ((Sml.lit "either" 6 (by decide)).tup2 (t.mono (Nat.le_refl _) (Nat.mul_le_mul_right _ h2))).mono (by omega) (by omega)
  | jump q => exact ((Sml.lit "jump" 6 (by decide)).tup2 (Sml.nat hk (by have : q < many := h; omega))).mono (by omega) (by omega)
  | call p => exact ((Sml.lit "call" 6 (by decide)).tup2 (Sml.nm (hp _ (sAt_mem h.2)))).mono (by omega) (by omega)
  | fin => exact (Sml.lit "end" 6 (by decide)).tup1.mono (by omega) (by omega)
theorem part_sml {k : Nat} {P : Prog} (h : P.Ok k) {p : Nat} {n : Str} {rows : List Rw} (e : P.rs[p]? = some rows) (hn : n ∈ P.pn) : Sml k 5 (24 * (40 * k + 51) + 8) (partD P.bx P.pn (n, rows)) := by
  have q := h.rk p rows e
  have t := Sml.lsts (k := k) (h := 3) (w := 40 * k + 50) (ds := rowsD P.bx P.pn rows) fun d hd => by
    obtain ⟨r, hr, rfl⟩ := List.mem_map.mp hd
    exact row_sml h.k1 (q.ok r hr) rfl h.b2 rfl (by have := q.l2; omega) h.bk h.pk
  rw [List.length_map] at t
  have t := t.mono (Nat.le_refl _) (Nat.mul_le_mul_right (40 * k + 50 + 1) q.l2)
  exact ((Sml.nm (h.pk n hn)).tup2 t).mono (by omega) (by omega)
theorem prog_sml {k : Nat} {P : Prog} (h : P.Ok k) : Sml k 7 (6000 * k + 8000) P.D := by
  have a := Sml.lsts (k := k) (h := 0) (w := 6) (ds := P.bx.map .str) fun d hd => by
    obtain ⟨x, hx, rfl⟩ := List.mem_map.mp hd
    exact Sml.nm (h.bk x hx)
  have b := Sml.lsts (k := k) (h := 5) (w := 24 * (40 * k + 51) + 8) (ds := P.partsL) fun d hd => by
    unfold Prog.partsL at hd
    obtain ⟨⟨n, rows⟩, hx, rfl⟩ := List.mem_map.mp hd
    obtain ⟨i, hi⟩ := List.getElem?_of_mem hx
    obtain ⟨e1, e2⟩ := List.getElem?_zip_eq_some.mp hi
    exact part_sml h e2 (List.mem_of_getElem? e1)
  rw [parts_len h] at b
  rw [List.length_map] at a
  have b := b.mono (Nat.le_refl _) (Nat.mul_le_mul_right (24 * (40 * k + 51) + 8 + 1) h.p2)
  have a := a.mono (Nat.le_refl _) (Nat.mul_le_mul_right (6 + 1) h.b2)
  exact (a.tup2 b).mono (by omega) (by omega)
theorem prog_nc {k : Nat} {P : Prog} (h : P.Ok k) : Nc P.D := (prog_sml h).nc (by have := h.k1; omega) h.k2 (by omega) (by have := h.k2; omega)
theorem row_nc {k : Nat} {P : Prog} (h : P.Ok k) {p : Nat} {rows : List Rw} (e : P.rs[p]? = some rows) {r : Rw} (hr : r ∈ rows) : Nc (r.D P.bx P.pn) := by
  have q := h.rk p rows e
  exact (row_sml h.k1 (q.ok r hr) rfl h.b2 rfl (by have := q.l2; omega) h.bk h.pk).nc (by have := h.k1; omega) h.k2 (by omega) (by have := h.k2; omega)

/-! rows are rows -/
theorem lineB_ln {s : Nat} {l : List Int} (h : l.length = s + 1) : lineB s (lnI l) = true := by
  simp only [lineB, List.length_map, h, Bool.and_eq_true, decide_eq_true_eq]
  exact ⟨by omega, intsI_all l⟩
theorem wishB_ws {k s : Nat} {w : Wsh} (h : WOk k s w) : wishB s (wsI w) = true := by
  obtain ⟨h1, h2, h3⟩ := h
  simp only [wishB, lineB_ln h2, Bool.and_true]
  rcases h1 with h1 | h1 <;> rw [h1] <;> simp [inW]
theorem numB_nat {many r : Nat} (h : r < many) : numB many (.int r) = true := by
  simp only [numB, Bool.and_eq_true, decide_eq_true_eq]; omega
theorem rowB_ok {k part many : Nat} {bx pn : List Str} {r : Rw} (h : r.ok k bx.length pn.length part many) : rowB bx (pn.drop (part + 1)) many (r.D bx pn) = true := by
  cases r with
  | set b l =>
    obtain ⟨h1, h2, h3⟩ := h
    simp [Rw.D, rowB, arg2, boxB, sAt_mem h1, lineB_ln h2]
  | read b =>
    have h1 : b < bx.length := h
    simp [Rw.D, rowB, arg1, boxB, sAt_mem h1]
  | want w => simp [Rw.D, rowB, arg1]; exact wishB_ws h
  | claim w => simp [Rw.D, rowB, arg1]; exact wishB_ws h
  | test w q => simp [Rw.D, rowB, arg2]; exact ⟨wishB_ws h.1, numB_nat h.2⟩
  | either rs =>
    obtain ⟨h1, h2, h3⟩ := h
    simp only [Rw.D, rowB, arg1, roadsB, List.length_map]
    simp
    refine ⟨⟨by omega, by omega⟩, fun r hr => numB_nat (h3 r hr)⟩
  | jump q => simp [Rw.D, rowB, arg1]; exact numB_nat h
  | call p =>
    obtain ⟨h1, h2⟩ := h
    simp [Rw.D, rowB, arg1, boxB]
    refine List.mem_drop_iff_getElem.mpr ⟨p - (part + 1), by omega, ?_⟩
    rw [sAt_eq h2]
    congr 1; omega
  | fin => simp [Rw.D, rowB]
end DI

set_option Elab.async false
set_option linter.all false
set_option maxRecDepth 100000
set_option maxHeartbeats 2000000
/-! DPV: dict comprehensions of names; stands looked at. -/
namespace DI
open PySem PySem.Spec L2

theorem dGet_snoc {x y : Str} {v : D} (ne : y ≠ x) : ∀ {acc : List (D × D)}, dGet acc (.str x) = none → dGet (acc ++ [(.str y, v)]) (.str x) = none
  | [], _ => by rw [List.nil_append, dGet_cons, if_neg ne]; rfl
  | (k, d) :: acc, h => by
    cases k with
    | str z =>
      rw [dGet_cons] at h
      rw [List.cons_append, dGet_cons]
      by_cases e : z = x
      · rw [if_pos e] at h; cases h
      · rw [if_neg e] at h ⊢; exact dGet_snoc ne h
    | _ =>
      have h' : dGet acc (.str x) = none := h
      exact dGet_snoc (acc := acc) ne h'
theorem dc_pure {p : P} {mk mv : M D} {r : Env} {m : Sto} (f : D → Str) (g : D → D) {it : List D} : ∀ {ds : List D} {acc : List (D × D)}, (∀ d ∈ ds, ∃ r1, bindP p d r = some r1 ∧ mk r1 m = .ok (.str (f d)) m ∧ mv r1 m = .ok (g d) m) → (∀ d ∈ ds, dGet acc (.str (f d)) = none) → (ds.map f).Nodup → acc.length + ds.length ≤ 1000000 →
    dcL (Live ⟨it, none⟩) p mYes mk mv r ds acc m = .ok (.dct (acc ++ ds.map fun d => (.str (f d), g d))) m
  | [], acc, _, _, _, _ => by simp [dcL, Live]
  | d :: ds, acc, st, fr, nd, hl => by
    obtain ⟨r1, e1, e2, e3⟩ := st d List.mem_cons_self
    rw [List.length_cons] at hl
    rw [List.map_cons, List.nodup_cons] at nd
    have c : acc.length < lim ∧ keyOk (.str (f d)) = true ∧ dGet acc (.str (f d)) = none := ⟨by unfold lim; omega, rfl, fr d List.mem_cons_self⟩
    rw [dcL_cons trivial, e1]
    simp only [z_yes, e2, e3]
    rw [if_pos c, dc_pure f g (fun e he => st e (List.mem_cons_of_mem _ he)) (fun e he => dGet_snoc (fun z => nd.1 (by rw [z]; exact List.mem_map_of_mem he)) (fr e (List.mem_cons_of_mem _ he))) nd.2 (by rw [List.length_append, List.length_singleton]; omega)]
    simp
theorem kv_parts (bx pn : List Str) : ∀ (ps : List (Str × List Rw)) (i : Nat), (enF i (ps.map (partD bx pn))).map (fun d => match d with
    | .tup [.int i, .tup (.str x :: _)] => (D.str x, D.int i)
    | d => (d, d)) = kvN i (ps.map Prod.fst)
  | [], i => rfl
  | (x, rows) :: ps, i => by
    rw [List.map_cons, enF_cons, List.map_cons, List.map_cons, kvN_cons, kv_parts bx pn ps (i + 1)]
theorem row_D_word (bx pn : List Str) (r : Rw) : ∃ w l, r.D bx pn = .tup (.str w :: l) := by cases r <;> exact ⟨_, _, rfl⟩

def negD : D → D
  | .int c => .int (0 - c)
  | d => d
theorem neg_map (l : List Int) : (l.map D.int).map negD = (l.map fun c => 0 - c).map D.int := by rw [List.map_map, List.map_map]; rfl
theorem index_strs {bx : List Str} {b : Nat} (hn : bx.Nodup) (hb : b < bx.length) (m : Sto) : indexO (.lst (bx.map .str)) [.str (sAt bx b)] m = some (.int (b : Nat), m) := by
  have h : (bx.map D.str).all isBase = true := by rw [List.all_map]; exact List.all_eq_true.mpr fun _ _ => rfl
  unfold indexO
  simp only [h, isBase, Bool.and_self, if_true]
  have e : ((bx.map D.str).findIdx? fun z => eqFl z (.str (sAt bx b))) = some b := by
    rw [List.findIdx?_eq_some_iff_getElem]
    refine ⟨by rw [List.length_map]; exact hb, by simp [eqFl, sAt_eq hb], fun j hj => ?_⟩
    simp only [List.getElem_map, eqFl, sAt_eq hb, beq_iff_eq]
    intro z
    exact List.pairwise_iff_getElem.mp hn j b (by omega) hb hj z
  rw [e]; rfl

/-! stands looked at -/
def rowsN (P : Prog) (p : Int) : Int := ((((P.rs[p.toNat]?).map List.length).getD 0 : Nat) : Int)
def placeB (P : Prog) : D → Bool
  | .tup [.int p, .int r] => (decide (0 ≤ p) && decide (p < P.pn.length)) && (decide (0 ≤ r) && decide (r < rowsN P p))
  | _ => false
def decP : D → Nat × Nat
  | .tup [.int p, .int r] => (p.toNat, r.toNat)
  | _ => (0, 0)
def callB (P : Prog) (a : Nat × Nat) (q : Nat) : Bool := match P.row a.1 a.2 with
  | some (.call c) => c == q
  | _ => false
def chN (P : Prog) : List (Nat × Nat) → Bool
  | a :: b :: l => callB P a b.1 && chN P (b :: l)
  | _ => true
def placesB (P : Prog) : D → Bool
  | .tup xs => !xs.isEmpty && (xs.all (placeB P) && (chN P (xs.map decP) && ((xs.map decP).head?.map Prod.fst == some 0)))
  | _ => false
def standB (P : Prog) : D → Bool
  | .tup (.str w :: rest) => if w = "at" then arg1 (placesB P) rest else (decide (w = "ended") || decide (w = "failed")) && rest.isEmpty
  | _ => false
theorem placeB_row {k : Nat} {P : Prog} (h : P.Ok k) {d : D} (hd : placeB P d = true) : ∃ p r row, d = plD (p, r) ∧ P.row p r = some row := by
  unfold placeB at hd
  split at hd
  · rename_i p r
    simp only [Bool.and_eq_true, decide_eq_true_eq] at hd
    obtain ⟨⟨h1, h2⟩, h3, h4⟩ := hd
    have hp : p.toNat < P.rs.length := by rw [h.len]; omega
    unfold rowsN at h4
    rw [List.getElem?_eq_getElem hp] at h4
    simp only [Option.map_some, Option.getD_some] at h4
    refine ⟨p.toNat, r.toNat, P.rs[p.toNat][r.toNat]'(by omega), ?_, by simp [Prog.row, List.getElem?_eq_getElem hp, List.getElem?_eq_getElem (show r.toNat < P.rs[p.toNat].length by omega)]⟩
    simp only [plD]
    congr 3 <;> simp <;> omega
  · cases hd
theorem row_placeB {k : Nat} {P : Prog} (h : P.Ok k) {p r : Nat} {row : Rw} (e : P.row p r = some row) : placeB P (plD (p, r)) = true := by
  obtain ⟨rows, e1, e2, _, _, hr, _⟩ := row_ok h e
  have hp : p < P.pn.length := by rw [← h.len]; exact (List.getElem?_eq_some_iff.mp e1).1
  simp only [placeB, plD, rowsN, Int.toNat_natCast, e1, Option.map_some, Option.getD_some, Bool.and_eq_true, decide_eq_true_eq]
  omega
@[simp] theorem decP_pl (a : Nat × Nat) : decP (plD a) = a := by simp [decP, plD]
theorem all_pl {k : Nat} {P : Prog} (h : P.Ok k) : ∀ {xs : List D}, xs.all (placeB P) = true → ∃ ps : List (Nat × Nat), xs = ps.map plD ∧ ∀ a ∈ ps, ∃ row, P.row a.1 a.2 = some row
  | [], _ => ⟨[], rfl, by simp⟩
  | x :: xs, hx => by
    rw [List.all_cons, Bool.and_eq_true] at hx
    obtain ⟨p, r, row, rfl, e⟩ := placeB_row h hx.1
    obtain ⟨ps, rfl, q⟩ := all_pl h hx.2
    exact ⟨(p, r) :: ps, rfl, fun a ha => by
      rcases List.mem_cons.mp ha with rfl | ha
      · exact ⟨row, e⟩
      · exact q a ha⟩
theorem chN_snoc (P : Prog) : ∀ (o : List (Nat × Nat)) (a b : Nat × Nat), chN P (o ++ [a]) = true → callB P a b.1 = true → chN P (o ++ [a, b]) = true
  | [], a, b, _, h => by simp [chN, h]
  | [c], a, b, h1, h => by
    simp only [List.cons_append, List.nil_append, chN, Bool.and_true] at h1 ⊢
    simp [h1, h]
  | c :: d :: o, a, b, h1, h => by
    simp only [List.cons_append, chN, Bool.and_eq_true] at h1 ⊢
    exact ⟨h1.1, chN_snoc P (d :: o) a b h1.2 h⟩
theorem chn_chN {P : Prog} : ∀ {o : List (Nat × Nat)} {p : Nat}, Chn P o p → ∀ r, chN P (o ++ [(p, r)]) = true ∧ ((o ++ [(p, r)]).head?.map Prod.fst = some 0)
  | _, _, .nil, r => ⟨rfl, rfl⟩
  | _, _, .snoc (o := o) (p := p) (r := r') (q := q) c e, r => by
    obtain ⟨h1, h2⟩ := chn_chN c r'
    rw [List.append_assoc]
    refine ⟨chN_snoc P o (p, r') (q, r) h1 (by simp [callB, e]), ?_⟩
    cases o with
    | nil => simpa using h2
    | cons a o => simpa using h2
theorem chn_rows {P : Prog} : ∀ {o : List (Nat × Nat)} {p : Nat}, Chn P o p → ∀ a ∈ o, ∃ row, P.row a.1 a.2 = some row
  | _, _, .nil, a, ha => by simp at ha
  | _, _, .snoc c e, a, ha => by
    rcases List.mem_append.mp ha with ha | ha
    · exact chn_rows c a ha
    · rw [List.mem_singleton] at ha; subst ha; exact ⟨_, e⟩
theorem standB_ok {k : Nat} {P : Prog} (h : P.Ok k) {s : Stand} (hs : s.ok P) : standB P s.D = true := by
  cases s with
  | ended => simp [Stand.D, standB]
  | failed => simp [Stand.D, standB]
  | «at» o p r =>
    obtain ⟨c, row, e⟩ := hs
    obtain ⟨h1, h2⟩ := chn_chN c r
    have e1 : o.map plD ++ [D.tup [.int p, .int r]] = (o ++ [(p, r)]).map plD := by simp
    simp only [Stand.D, atD, standB, if_true, arg1]
    rw [e1]
    have e2 : ((o ++ [(p, r)]).map plD).map decP = o ++ [(p, r)] := by rw [List.map_map]; exact (List.map_congr_left fun a _ => decP_pl a).trans (List.map_id _)
    have e3 : ((o ++ [(p, r)]).map plD).all (placeB P) = true := by
      rw [List.all_eq_true]
      intro d hd
      obtain ⟨a, ha, rfl⟩ := List.mem_map.mp hd
      rcases List.mem_append.mp ha with ha | ha
      · obtain ⟨row', e'⟩ := chn_rows c a ha; exact row_placeB h (p := a.1) (r := a.2) e'
      · rw [List.mem_singleton] at ha; subst ha; exact row_placeB h e
    simp only [placesB, e2, e3, h1, h2, Bool.true_and, Bool.and_true]
    simp
/-- how great stands and exits are -/
theorem pl_sml {k : Nat} (hk : 2 ≤ k) {a : Nat × Nat} (h1 : a.1 < 100) (h2 : a.2 < 100) : Sml k 1 (8 * k + 2) (plD a) := ((Sml.nat hk h1).tup2 (Sml.nat hk h2)).mono (by omega) (by omega)
theorem row_lt {k : Nat} {P : Prog} (h : P.Ok k) {p r : Nat} {row : Rw} (e : P.row p r = some row) : p < 6 ∧ r < 24 := by
  obtain ⟨rows, e1, _, _, _, h1, h2⟩ := row_ok h e
  have := (List.getElem?_eq_some_iff.mp e1).1
  have := h.p2; have := h.len
  omega
theorem stand_sml {k : Nat} {P : Prog} (h : P.Ok k) {s : Stand} (hs : s.ok P) : Sml k 3 (48 * k + 30) s.D := by
  have hk := h.k1
  cases s with
  | ended => exact ((Sml.lit "ended" 6 (by decide)).tup1).mono (by omega) (by omega)
  | failed => exact ((Sml.lit "failed" 6 (by decide)).tup1).mono (by omega) (by omega)
  | «at» o p r =>
    obtain ⟨c, row, e⟩ := hs
    have t := Sml.tups (k := k) (h := 1) (w := 8 * k + 2) (ds := o.map plD ++ [plD (p, r)]) fun d hd => by
      rcases List.mem_append.mp hd with hd | hd
      · obtain ⟨a, ha, rfl⟩ := List.mem_map.mp hd
        obtain ⟨row', e'⟩ := chn_rows c a ha
        have := row_lt h e'
        exact pl_sml hk (by omega) (by omega)
      · rw [List.mem_singleton] at hd; subst hd
        have := row_lt h e
        exact pl_sml hk (by show p < 100; omega) (by show r < 100; omega)
    have l := chn_len h c
    rw [List.length_append, List.length_map, List.length_singleton] at t
    have t := t.mono (Nat.le_refl _) (Nat.mul_le_mul_right (8 * k + 2 + 1) (show o.length + 1 ≤ 6 by omega))
    exact ((Sml.lit "at" 2 (by decide)).tup2 t).mono (by omega) (by omega)
def Deed.ok (k s : Nat) : Deed → Prop
  | .set b l => b < s ∧ l.length = s + 1 ∧ ∀ i ∈ l, i.natAbs < 10 ^ k
  | .read b => b < s
  | .none => True
structure Out.ok (k : Nat) (P : Prog) (o : Out) : Prop where
  w : ∀ w, o.w = some w → WOk k P.bx.length w
  d : o.d.ok k P.bx.length
  s : o.s.ok P
theorem negW_ok {k s : Nat} {w : Wsh} (h : WOk k s w) : WOk k s (negW w) := by
  obtain ⟨h1, h2, h3⟩ := h
  refine ⟨?_, by simp [negW, h2], fun i hi => ?_⟩
  · rcases h1 with h1 | h1 <;> simp [negW, othW, h1]
  · obtain ⟨c, hc, rfl⟩ := List.mem_map.mp hi
    have := h3 c hc; omega
theorem outs_ok2 {k : Nat} {P : Prog} (h : P.Ok k) {s : Stand} (hs : s.ok P) : ∀ o ∈ outs P s, o.ok k P := by
  intro o ho
  have hst := outs_ok h hs o ho
  cases s with
  | ended => simp [outs] at ho
  | failed => simp [outs] at ho
  | «at» q p r =>
    obtain ⟨c, row, e⟩ := hs
    obtain ⟨rows, e1, e2, rk, _⟩ := row_ok h e
    simp only [outs, e] at ho
    have none_ : ∀ {s : Stand}, s.ok P → Out.ok k P ⟨none, .none, s⟩ := fun z => ⟨(fun _ z => nomatch z), trivial, z⟩
    have some_ : ∀ {w : Wsh} {s : Stand}, WOk k P.bx.length w → s.ok P → Out.ok k P ⟨some w, .none, s⟩ := fun z z' => ⟨fun _ e => by cases e; exact z, trivial, z'⟩
    cases row with
    | set b l => simp only [outsR, List.mem_singleton] at ho; subst ho; exact ⟨(fun _ z => nomatch z), rk, hst⟩
    | read b => simp only [outsR, List.mem_singleton] at ho; subst ho; exact ⟨(fun _ z => nomatch z), rk, hst⟩
    | want w => simp only [outsR, List.mem_singleton] at ho; subst ho; exact some_ rk hst
    | claim w =>
      simp only [outsR, List.mem_cons, List.not_mem_nil, or_false] at ho
      rcases ho with rfl | rfl
      · exact some_ rk hst
      · exact some_ (negW_ok rk) hst
    | test w t =>
      simp only [outsR, List.mem_cons, List.not_mem_nil, or_false] at ho
      rcases ho with rfl | rfl
      · exact some_ rk.1 hst
      · exact some_ (negW_ok rk.1) hst
    | either rs =>
      simp only [outsR, List.mem_map] at ho
      obtain ⟨t, ht, rfl⟩ := ho
      exact none_ hst
    | jump t => simp only [outsR, List.mem_singleton] at ho; subst ho; exact none_ hst
    | call t => simp only [outsR, List.mem_singleton] at ho; subst ho; exact none_ hst
    | fin => simp only [outsR, List.mem_singleton] at ho; subst ho; exact none_ hst
theorem out_sml {k : Nat} {P : Prog} (h : P.Ok k) {o : Out} (ho : o.ok k P) : Sml k 4 (130 * k + 90) o.D := by
  have a : Sml k 2 (36 * k + 17) (ownI o.w) := by
    cases e : o.w with
    | none => exact Sml.non.mono (by omega) (by omega)
    | some w => exact ws_sml (ho.w w e) h.b2
  have b : Sml k 2 (40 * k + 25) o.d.D := by
    have := ho.d
    cases e : o.d with
    | none => exact Sml.non.mono (by omega) (by omega)
    | set b l =>
      rw [e] at this
      obtain ⟨h1, h2, h3⟩ := this
      have := h.b2
      exact ((Sml.lit "set" 6 (by decide)).tup3 (Sml.nat h.k1 (by omega)) (ln_sml (n := 9) (by omega) h3)).mono (by omega) (by omega)
    | read b =>
      rw [e] at this
      have h1 : b < P.bx.length := this
      have := h.b2
      exact ((Sml.lit "read" 6 (by decide)).tup2 (Sml.nat h.k1 (by omega))).mono (by omega) (by omega)
  exact (a.tup3 b (stand_sml h ho.s)).mono (by omega) (by omega)
theorem outs_sml {k : Nat} {P : Prog} (h : P.Ok k) {s : Stand} (hs : s.ok P) : Sml k 5 (600 * k + 400) (.lst ((outs P s).map Out.D)) := by
  have t := Sml.lsts (k := k) (h := 4) (w := 130 * k + 90) (ds := (outs P s).map Out.D) fun d hd => by
    obtain ⟨o, ho, rfl⟩ := List.mem_map.mp hd
    exact out_sml h (outs_ok2 h hs o ho)
  rw [List.length_map] at t
  exact t.mono (by omega) (by have := Nat.mul_le_mul_right (130 * k + 90 + 1) (outs_len h hs); omega)

/-! names drawn -/
theorem nmok_of {x : Str} (h : nameB (.str x) = true) : NmOk x := by
  simp only [nameB, Bool.and_eq_true, decide_eq_true_eq, List.all_eq_true] at h
  obtain ⟨⟨h1, h2⟩, h3⟩ := h
  exact ⟨x.cps.toList, sl_eta x, by simpa using h1, by simpa using h2, h3⟩
def allBx : List Str := ["x", "y", "z", "total", "k", "m", "n", "w"]
def allPn : List Str := ["main", "step", "x", "a", "bc", "last"]
theorem allBx_ok : allBx.Nodup ∧ ∀ x ∈ allBx, NmOk x := ⟨by decide +kernel, fun x hx => nmok_of (by
  have : (allBx.all fun x => nameB (.str x)) = true := by decide +kernel
  exact List.all_eq_true.mp this x hx)⟩
theorem allPn_ok : allPn.Nodup ∧ ∀ x ∈ allPn, NmOk x := ⟨by decide +kernel, fun x hx => nmok_of (by
  have : (allPn.all fun x => nameB (.str x)) = true := by decide +kernel
  exact List.all_eq_true.mp this x hx)⟩
theorem pre_names {all : List Str} (ok : all.Nodup ∧ ∀ x ∈ all, NmOk x) {r : Int} (h0 : 0 ≤ r) (h1 : r < all.length) : ∃ bx : List Str, cutD (all.map D.str) none (some (1 + r)) = bx.map .str ∧ bx.length = 1 + r.toNat ∧ bx.Nodup ∧ ∀ x ∈ bx, NmOk x := by
  refine ⟨all.take (1 + r.toNat), ?_, by rw [List.length_take]; omega, ok.1.sublist (List.take_sublist _ _), fun x hx => ok.2 x (List.mem_of_mem_take hx)⟩
  have : (1 + r : Int) = ((1 + r.toNat : Nat) : Int) := by omega
  rw [this, cutN_to, List.map_take]
theorem nil_strs {xs : List Str} (hl : xs.length ≤ 6) (h : ∀ x ∈ xs, NmOk x) : cmpB .NotEq (.lst (xs.map D.str)) (.lst []) = some (!xs.isEmpty) := by
  have t := Sml.lsts (k := 2) (h := 0) (w := 6) (ds := xs.map .str) fun d hd => by
    obtain ⟨x, hx, rfl⟩ := List.mem_map.mp hd
    exact Sml.nm (h x hx)
  rw [List.length_map] at t
  rw [cNe_nc ((t.mono (Nat.le_refl _) (Nat.mul_le_mul_right 7 hl)).nc (by decide) (by decide) (by decide) (by decide)) ⟨1, by decide, by decide, by simp, by simp, by simp⟩]
  cases xs <;> simp

/-! two things sifted; failed stands -/
theorem lc_two {p : P} {mc : M Bool} {me : M D} {r rA rB : Env} {m : Sto} {A B : D} {bA bB : Bool} {it : List D} (hA : bindP p A r = some rA) (hB : bindP p B r = some rB) (cA : mc rA m = .ok bA m) (cB : mc rB m = .ok bB m) (eA : me rA m = .ok A m) (eB : me rB m = .ok B m) :
    lcL (Live ⟨it, none⟩) p mc me r [A, B] [] m = .ok (.lst ((if bA = true then [A] else []) ++ (if bB = true then [B] else []))) m := by
  have z : ∀ acc : List D, lcL (Live ⟨it, none⟩) p mc me r [] acc m = .ok (.lst acc) m := fun acc => by simp [lcL, Live]
  rw [lcL_cons trivial, hA]
  simp only [cA]
  cases bA with
  | true =>
    simp only [eA]
    rw [if_pos (by unfold lim; simp), lcL_cons trivial, hB]
    simp only [cB]
    cases bB with
    | true => simp only [eB]; rw [if_pos (by unfold lim; simp), z]; rfl
    | false => simp only; rw [z]; rfl
  | false =>
    simp only
    rw [lcL_cons trivial, hB]
    simp only [cB]
    cases bB with
    | true => simp only [eB]; rw [if_pos (by unfold lim; simp), z]; rfl
    | false => simp only; rw [z]; rfl
def fl : Stand → Bool
  | .failed => true
  | _ => false
theorem fl_dEq (s : Stand) : dEq s.D (.tup [.str "failed"]) = fl s := by
  cases s <;> simp [Stand.D, fl]
def Rw.isC : Rw → Bool
  | .claim _ => true
  | _ => false
theorem fl_endS (o : List (Nat × Nat)) : fl (endS o) = false := by
  unfold endS
  cases o.getLast? <;> rfl
theorem outs_fl (o : List (Nat × Nat)) (p r : Nat) (row : Rw) : (outsR o p r row).any (fun x => fl x.s) = row.isC := by
  cases row with
  | fin => show (fl (endS o) || false) = false; rw [fl_endS]; rfl
  | _ => simp [outsR, fl, Rw.isC]
def Rw.word : Rw → Str
  | .set _ _ => "set" | .read _ => "read" | .want _ => "want" | .claim _ => "claim" | .test _ _ => "test" | .either _ => "either" | .jump _ => "jump" | .call _ => "call" | .fin => "end"
theorem row_word (bx pn : List Str) (r : Rw) : ∃ l, r.D bx pn = .tup (.str r.word :: l) := by cases r <;> exact ⟨_, rfl⟩
theorem outs_pos {k : Nat} {P : Prog} (h : P.Ok k) {o : List (Nat × Nat)} {p r : Nat} (hs : Stand.ok P (.at o p r)) : 1 ≤ (outs P (.at o p r)).length := by
  obtain ⟨c, row, e⟩ := hs
  obtain ⟨_, _, _, rk, _⟩ := row_ok h e
  simp only [outs, e]
  cases row <;> simp [outsR]
  have := rk.1; omega
end DI

set_option Elab.async false
set_option linter.all false
set_option maxRecDepth 100000
set_option maxHeartbeats 2000000
/-! DPW: worths of lines, in fractions and in whole numbers. -/
namespace DI
open PySem PySem.Spec L2
/-! worth -/
def wor : List Int → List Rat → Rat
  | c :: cs, q :: qs => (c : Rat) * q + wor cs qs
  | _, _ => 0
def SzL : Nat → List Rat → Prop
  | _, [] => True
  | B, q :: qs => ∃ k, Sz k q ∧ k + 9 ≤ B ∧ SzL (B - (k + 9)) qs
theorem fr_int (c : Int) : fr (c : Rat) = .tup [.int c, .int 1] := by simp [fr]
theorem sz_int {c : Int} {k : Nat} (h : c.natAbs < 2 ^ k) (hk : 0 < k) : Sz k (c : Rat) := ⟨by simpa using h, by simpa using Nat.one_lt_two_pow (by omega)⟩
abbrev lnD (cs : List Int) : D := .tup (cs.map D.int)
abbrev nbD (qs : List Rat) : D := .lst (qs.map fr)
def val (cs : List Int) (qs : List Rat) : Rat := match cs with
  | c :: cs => (c : Rat) + wor cs qs
  | [] => 0
/-- a line over these numbers, small -/
structure LOk (cs : List Int) (qs : List Rat) : Prop where
  len : cs.length = qs.length + 1
  sm : ∀ x ∈ cs, x.natAbs < 2 ^ 8
  sz : SzL 380 qs
def gr (w : Str) (v : Int) : Bool := decide (0 < v) || ((w == "least") && (v == 0))
def worI : List Int → List Int → Int
  | c :: cs, n :: ns => c * n + worI cs ns
  | _, _ => 0
def valI (cs ns : List Int) : Int := match cs with
  | c :: cs => c + worI cs ns
  | [] => 0
abbrev qL (ns : List Int) : List Rat := ns.map fun n : Int => (n : Rat)
theorem wor_cast : ∀ (cs ns : List Int), wor cs (qL ns) = ((worI cs ns : Int) : Rat)
  | [], _ => by simp [wor, worI]
  | _ :: _, [] => by simp [wor, worI]
  | c :: cs, n :: ns => by
    have ih := wor_cast cs ns
    simp only [qL, List.map_cons, wor, worI] at ih ⊢
    rw [ih, Rat.intCast_add, Rat.intCast_mul]
theorem val_cast (cs ns : List Int) : val cs (qL ns) = ((valI cs ns : Int) : Rat) := by
  cases cs with
  | nil => rfl
  | cons c cs => simp only [val, valI, wor_cast, Rat.intCast_add]
theorem num_cast (cs ns : List Int) : (val cs (qL ns)).num = valI cs ns := by rw [val_cast]; rfl
theorem valI_wor (cs ns : List Int) : valI cs ns = worI cs (1 :: ns) := by
  cases cs with
  | nil => rfl
  | cons c cs => simp [valI, worI]
theorem ints_map : ∀ xs : List Int, intsOf (xs.map D.int) = some xs
  | [] => rfl
  | x :: xs => by simp only [List.map_cons, intsOf, ints_map xs, Option.map_some]
theorem sum_lst (xs : List Int) (m : Sto) : sumO [.lst (xs.map D.int)] m = some (.int xs.sum, m) := by
  unfold sumO
  dsimp only
  rw [ints_map]; rfl
theorem worI_sum : ∀ cs ns : List Int, (List.zipWith (fun a b => a * b) cs ns).sum = worI cs ns
  | [], _ => by simp [worI]
  | _ :: _, [] => by simp [worI]
  | c :: cs, n :: ns => by simp [worI, worI_sum cs ns]
def mulD : D → D
  | .tup [.int a, .int b] => .int (a * b)
  | d => d
theorem prod_eq (xs ys : List Int) : (zipD (xs.map D.int) (ys.map D.int)).map mulD = (List.zipWith (fun a b => a * b) xs ys).map D.int := by
  unfold zipD
  induction xs generalizing ys with
  | nil => simp
  | cons x xs ih =>
    cases ys with
    | nil => simp
    | cons y ys => simp only [List.map_cons, List.zipWith_cons_cons, ih ys, mulD]

theorem tailL (c : Int) (cs : List Int) : cutD ((c :: cs).map D.int) (some 1) none = cs.map D.int := (cutN_from ((c :: cs).map D.int) 1).trans (by simp)
theorem zipD_mem {xs ys : List Int} {d : D} (h : d ∈ zipD (xs.map D.int) (ys.map D.int)) : ∃ a b, a ∈ xs ∧ b ∈ ys ∧ d = .tup [.int a, .int b] := by
  obtain ⟨i, hi, e⟩ := List.getElem_of_mem h
  have e2 : (zipD (xs.map D.int) (ys.map D.int))[i]? = some d := by rw [← e]; exact List.getElem?_eq_getElem hi
  obtain ⟨x, y, h1, h2, rfl⟩ := zip_at e2
  rw [List.getElem?_map] at h1 h2
  obtain ⟨a, ha, rfl⟩ := Option.map_eq_some_iff.mp h1
  obtain ⟨b, hb, rfl⟩ := Option.map_eq_some_iff.mp h2
  exact ⟨a, b, List.mem_of_getElem? ha, List.mem_of_getElem? hb, rfl⟩
/-! contraries -/
def negL (cs : List Int) : List Int := cs.map fun c => 0 - c
theorem worI_neg : ∀ (cs ns : List Int), worI (negL cs) ns = - worI cs ns
  | [], _ => by simp [negL, worI]
  | _ :: _, [] => by simp [negL, worI]
  | c :: cs, n :: ns => by
    have ih := worI_neg cs ns
    simp only [negL, List.map_cons, worI] at ih ⊢
    rw [ih]
    grind
theorem valI_neg (cs ns : List Int) : valI (negL cs) ns = - valI cs ns := by rw [valI_wor, valI_wor, worI_neg]
theorem above_least : (("above" : Str) == ("least" : Str)) = false := by decide +kernel
theorem gr_other (w : Str) (v : Int) : gr (othW w) (-v) = !gr w v := by
  have e1 : ∀ b : Bool, (-v == 0) = (v == 0) := fun _ => by rw [Bool.eq_iff_iff, beq_iff_eq, beq_iff_eq]; omega
  have e1 := e1 true
  unfold gr othW
  rcases Int.lt_trichotomy v 0 with h | h | h
  · have h1 : decide (0 < v) = false := decide_eq_false (by omega)
    have h2 : decide (0 < -v) = true := decide_eq_true (by omega)
    have h3 : (v == 0) = false := by rw [beq_eq_false_iff_ne]; omega
    rw [h1, h2, h3]; simp
  · subst h
    cases hw : w == "least" with
    | true => simp [above_least]
    | false => simp
  · have h1 : decide (0 < v) = true := decide_eq_true (by omega)
    have h2 : decide (0 < -v) = false := decide_eq_false (by omega)
    have h3 : (v == 0) = false := by rw [beq_eq_false_iff_ne]; omega
    rw [e1, h1, h2, h3]; simp

theorem gr_neg {k s : Nat} {w : Wsh} (h : WOk k s w) (ns : List Int) : gr (negW w).1 (valI (negW w).2 ns) = !gr w.1 (valI w.2 ns) := by
  have := valI_neg w.2 ns
  show gr (othW w.1) (valI (negL w.2) ns) = _
  rw [this, gr_other]
theorem szl_int : ∀ (xs : List Int) (B : Nat), (∀ x ∈ xs, x.natAbs < 2 ^ 4) → xs.length * 13 ≤ B → SzL B (qL xs)
  | [], _, _, _ => trivial
  | x :: xs, B, h, hB => by
    rw [List.length_cons] at hB
    exact ⟨4, sz_int (h x List.mem_cons_self) (by decide), by omega, szl_int xs _ (fun y hy => h y (List.mem_cons_of_mem _ hy)) (by omega)⟩
end DI

set_option Elab.async false
set_option linter.all false
set_option maxRecDepth 100000
set_option maxHeartbeats 2000000
/-! DPX: what is let by as a stand is one. -/
namespace DI
open PySem PySem.Spec L2
theorem chN_split (P : Prog) : ∀ (o : List (Nat × Nat)) (a b : Nat × Nat), chN P (o ++ [a, b]) = true → chN P (o ++ [a]) = true ∧ callB P a b.1 = true
  | [], a, b, h => by simp [chN] at h ⊢; exact h
  | [c], a, b, h => by
    simp only [List.cons_append, List.nil_append, chN, Bool.and_true, Bool.and_eq_true] at h ⊢
    exact ⟨h.1, h.2⟩
  | c :: d :: o, a, b, h => by
    simp only [List.cons_append, chN, Bool.and_eq_true] at h ⊢
    obtain ⟨h1, h2⟩ := chN_split P (d :: o) a b h.2
    exact ⟨⟨h.1, h1⟩, h2⟩
theorem chN_chn {P : Prog} : ∀ (n : Nat) (o : List (Nat × Nat)) (p r : Nat), o.length = n → chN P (o ++ [(p, r)]) = true → ((o ++ [(p, r)]).head?.map Prod.fst = some 0) → Chn P o p := by
  intro n
  induction n with
  | zero =>
    intro o p r hn h h0
    have : o = [] := List.eq_nil_of_length_eq_zero hn
    subst this
    simp at h0; subst h0
    exact .nil
  | succ n ih =>
    intro o p r hn h h0
    rcases List.eq_nil_or_concat o with rfl | ⟨o', q, rfl⟩
    · simp at hn
    · obtain ⟨q1, q2⟩ := q
      simp only [List.concat_eq_append] at *
      rw [List.append_assoc] at h h0
      have h : chN P (o' ++ [(q1, q2), (p, r)]) = true := h
      obtain ⟨h1, h2⟩ := chN_split P o' (q1, q2) (p, r) h
      have hc : P.row q1 q2 = some (.call p) := by
        unfold callB at h2
        split at h2
        · rename_i c e
          rw [beq_iff_eq] at h2
          simp only at h2 e
          rw [e, h2]
        · cases h2
      have h0 : (o' ++ [(q1, q2)]).head?.map Prod.fst = some 0 := by
        cases o' with
        | nil => simpa using h0
        | cons a o' => simpa using h0
      exact .snoc (ih o' q1 q2 (by rw [List.length_append, List.length_singleton] at hn; omega) h1 h0) hc
theorem standB_stand {k : Nat} {P : Prog} (h : P.Ok k) {d : D} (hd : standB P d = true) : ∃ s : Stand, d = s.D ∧ s.ok P := by
  unfold standB at hd
  split at hd
  · rename_i w rest
    split at hd
    · rename_i hw
      subst hw
      match rest, hd with
      | [b], hd =>
        have hd : placesB P b = true := hd
        unfold placesB at hd
        split at hd
        · rename_i xs
          simp only [Bool.and_eq_true] at hd
          obtain ⟨he, ha, hc, h0⟩ := hd
          obtain ⟨ps, rfl, hp⟩ := all_pl h ha
          have dm : (ps.map plD).map decP = ps := by rw [List.map_map]; exact (List.map_congr_left fun a _ => decP_pl a).trans (List.map_id _)
          rw [dm] at hc h0
          rcases List.eq_nil_or_concat ps with rfl | ⟨o, q, rfl⟩
          · simp at he
          · obtain ⟨p, r⟩ := q
            simp only [List.concat_eq_append] at *
            refine ⟨.at o p r, by simp [Stand.D, atD, plD], chN_chn _ o p r rfl hc (by simpa using h0), ?_⟩
            exact hp (p, r) (by simp)
        · cases hd
    · rename_i hw
      simp only [Bool.and_eq_true, Bool.or_eq_true, decide_eq_true_eq, List.isEmpty_iff] at hd
      obtain ⟨hd, rfl⟩ := hd
      rcases hd with rfl | rfl
      · exact ⟨.ended, rfl, trivial⟩
      · exact ⟨.failed, rfl, trivial⟩
  · cases hd
end DI

set_option Elab.async false
set_option linter.all false
set_option maxRecDepth 100000
set_option maxHeartbeats 8000000
namespace K17
open PySem PySem.Spec L2 DI
open PyProof.Rows hiding St
/-! the text -/
def top (i : Nat) : Stmt := PySem.Challenge.pw_coveredtree_k17_stands_looked_at.main.body.getD i (.Pass ⟨0, 0, 0, 0⟩)
abbrev y1 : Stmt := clsInit (top 2)
def x1 : He.DefD := ⟨("NoProgram", some "__init__"), "__init__", "NoProgram.__init__", defArgs y1, defBody y1, defScope y1, [], []⟩
def xi : List XI := [{ k := 0, c := .plain, b := 0 }, ⟨1, .own ["part", "number", "row"], 0, "TreeError", some 0, x1⟩, { k := 2, c := .plain, b := 0 }, { k := 3, c := .plain, b := 0 }]
def al : List CK := [.own 0, .own 1, .own 3, .own 2]
def xm : List (Nat × List CK) := [(0, [.own 0, .ty "ValueError", .ty "Exception"]), (1, [.own 1, .own 0, .ty "ValueError", .ty "Exception"]), (2, [.own 2, .own 0, .ty "ValueError", .ty "Exception"]), (3, [.own 3, .own 0, .ty "ValueError", .ty "Exception"])]
def xc : List (Nat × XC) := xcOf xi
def isa : Isa := isaOf al xm
def arT : List (Nat × Nat) := [(0, 1), (1, 2), (2, 2), (3, 1), (4, 1), (5, 2), (6, 2), (7, 2), (8, 4), (9, 2), (10, 1), (11, 1), (12, 4), (13, 1), (14, 1), (15, 2), (16, 2), (17, 2), (18, 2), (19, 2), (20, 2), (21, 1), (22, 1), (23, 2), (24, 2), (25, 2), (26, 2), (27, 2), (28, 2), (29, 2), (30, 4), (31, 4), (32, 2), (33, 2), (34, 2), (35, 2), (36, 2), (37, 2), (38, 2), (39, 2), (40, 2), (41, 1)]
def kd : List (Str × List (Str × D)) := []
@[simp] theorem isa_0_0 : isa 0 (.own 0) = some true := nr rfl
@[simp] theorem isa_0_1 : isa 0 (.own 1) = some false := nr rfl
@[simp] theorem isa_0_2 : isa 0 (.own 3) = some false := nr rfl
@[simp] theorem isa_0_3 : isa 0 (.own 2) = some false := nr rfl
@[simp] theorem isa_1_0 : isa 1 (.own 0) = some true := nr rfl
@[simp] theorem isa_1_1 : isa 1 (.own 1) = some true := nr rfl
@[simp] theorem isa_1_2 : isa 1 (.own 3) = some false := nr rfl
@[simp] theorem isa_1_3 : isa 1 (.own 2) = some false := nr rfl
@[simp] theorem fok_1_part : fokOf xc 1 "part" = true := nr rfl
@[simp] theorem fok_1_number : fokOf xc 1 "number" = true := nr rfl
@[simp] theorem fok_1_row : fokOf xc 1 "row" = true := nr rfl
@[simp] theorem isa_2_0 : isa 2 (.own 0) = some true := nr rfl
@[simp] theorem isa_2_1 : isa 2 (.own 1) = some false := nr rfl
@[simp] theorem isa_2_2 : isa 2 (.own 3) = some false := nr rfl
@[simp] theorem isa_2_3 : isa 2 (.own 2) = some true := nr rfl
@[simp] theorem isa_3_0 : isa 3 (.own 0) = some true := nr rfl
@[simp] theorem isa_3_1 : isa 3 (.own 1) = some false := nr rfl
@[simp] theorem isa_3_2 : isa 3 (.own 3) = some true := nr rfl
@[simp] theorem isa_3_3 : isa 3 (.own 2) = some false := nr rfl
/-! is_whole -/
noncomputable def b0_s1 (call : CallF) : SM := sRet (mAndV (mApN isiO (mCons (mVar 0) (mCons (mC (.ty "int")) mNil))) (mNotV (mApN isiO (mCons (mVar 0) (mCons (mC (.ty "bool")) mNil)))))
noncomputable def b0 (call : CallF) : SM := b0_s1 call
abbrev s0 : Stmt := top 6
def d0 : He.DefD := ⟨("is_whole", none), "is_whole", "is_whole", defArgs s0, defBody s0, defScope s0, [], []⟩
noncomputable def p0 : PD := ⟨1, ["thing"], [], [], d0, b0⟩
/-! is_line -/
noncomputable def b1_s1 (call : CallF) : SM := sRet (mAndV (mApN isiO (mCons (mVar 1) (mCons (mC (.ty "tuple")) mNil))) (mAndV (mAp2 (cmpS .Eq) (mApN lenO (mCons (mVar 1) mNil)) (mAp2 (binS .Add) (mVar 0) (mC (.int 1)))) (mApN allO (mCons (mLc (mItV (mVar 1)) [2] (.nm 2) (mYes) (mCall call 0 (mCons (mVar 2) mNil) [])) mNil))))
noncomputable def b1 (call : CallF) : SM := b1_s1 call
abbrev s1 : Stmt := top 9
def d1 : He.DefD := ⟨("is_line", none), "is_line", "is_line", defArgs s1, defBody s1, defScope s1, [], []⟩
noncomputable def p1 : PD := ⟨2, ["many", "thing", "number"], [], [], d1, b1⟩
/-! is_wish -/
noncomputable def b2_s1 (call : CallF) : SM := sIf (mOrT (mNotT (mTru (mApN isiO (mCons (mVar 1) (mCons (mC (.ty "tuple")) mNil))))) (mOrT (mCmpT .NotEq (mApN lenO (mCons (mVar 1) mNil)) (mC (.int 2))) (mNotT (mTru (mApN isiO (mCons (mAp2 ixO (mVar 1) (mC (.int 0))) (mCons (mC (.ty "str")) mNil))))))) (sRet (mC (.bl false))) sNx
noncomputable def b2_s2 (call : CallF) : SM := sRet (mAndV (mAp2 (cmpS .In) (mAp2 ixO (mVar 1) (mC (.int 0))) (mC (.tup [.str "least", .str "above"]))) (mCall call 1 (mCons (mVar 0) (mCons (mAp2 ixO (mVar 1) (mC (.int 1))) mNil)) []))
noncomputable def b2 (call : CallF) : SM := sSeq (b2_s1 call) (b2_s2 call)
abbrev s2 : Stmt := top 10
def d2 : He.DefD := ⟨("is_wish", none), "is_wish", "is_wish", defArgs s2, defBody s2, defScope s2, [], []⟩
noncomputable def p2 : PD := ⟨2, ["many", "thing"], [], [], d2, b2⟩
/-! contrary -/
noncomputable def b3_s1 (call : CallF) : SM := sRet (mApN tupO (mCons (mAp2 ixO (mC (.tup [.str "least", .str "above"])) (mApN intO (mCons (mAp2 (cmpS .Eq) (mVar 1) (mC (.str "least"))) mNil))) (mCons (mApN tupleO (mCons (mLc (mItV (mVar 2)) [3] (.nm 3) (mYes) (mAp2 (binS .Sub) (mC (.int 0)) (mVar 3))) mNil)) mNil)))
noncomputable def b3 (call : CallF) : SM := sSeq (sAsg (.tp [.nm 1, .nm 2]) (mVar 0)) (b3_s1 call)
abbrev s3 : Stmt := top 11
def d3 : He.DefD := ⟨("contrary", none), "contrary", "contrary", defArgs s3, defBody s3, defScope s3, [], []⟩
noncomputable def p3 : PD := ⟨1, ["wish", "word", "line", "number"], [], [], d3, b3⟩
/-! is_name -/
noncomputable def b4_s1 (call : CallF) : SM := sIf (mOrT (mNotT (mTru (mApN isiO (mCons (mVar 0) (mCons (mC (.ty "str")) mNil))))) (mNotT (mChainT .LtE .LtE (mC (.int 1)) (mApN lenO (mCons (mVar 0) mNil)) (mC (.int 6))))) (sRet (mC (.bl false))) sNx
noncomputable def b4_s2 (call : CallF) : SM := sRet (mApN allO (mCons (mLc (mItV (mVar 0)) [1] (.nm 1) (mYes) (mAp2 (cmpS .In) (mVar 1) (mC (.str "abcdefghijklmnopqrstuvwxyz")))) mNil))
noncomputable def b4 (call : CallF) : SM := sSeq (b4_s1 call) (b4_s2 call)
abbrev s4 : Stmt := top 19
def d4 : He.DefD := ⟨("is_name", none), "is_name", "is_name", defArgs s4, defBody s4, defScope s4, [], []⟩
noncomputable def p4 : PD := ⟨1, ["thing", "sign"], [], [], d4, b4⟩
/-! is_row_number -/
noncomputable def b5_s1 (call : CallF) : SM := sRet (mAndV (mCall call 0 (mCons (mVar 1) mNil) []) (mChain .LtE .Lt (mC (.int 0)) (mVar 1) (mVar 0)))
noncomputable def b5 (call : CallF) : SM := b5_s1 call
abbrev s5 : Stmt := top 20
def d5 : He.DefD := ⟨("is_row_number", none), "is_row_number", "is_row_number", defArgs s5, defBody s5, defScope s5, [], []⟩
noncomputable def p5 : PD := ⟨2, ["many", "thing"], [], [], d5, b5⟩
/-! are_roads -/
noncomputable def b6_s1 (call : CallF) : SM := sIf (mOrT (mNotT (mTru (mApN isiO (mCons (mVar 1) (mCons (mC (.ty "tuple")) mNil))))) (mNotT (mChainT .LtE .LtE (mC (.int 2)) (mApN lenO (mCons (mVar 1) mNil)) (mC (.int 4))))) (sRet (mC (.bl false))) sNx
noncomputable def b6_s2 (call : CallF) : SM := sRet (mApN allO (mCons (mLc (mItV (mVar 1)) [2] (.nm 2) (mYes) (mCall call 5 (mCons (mVar 0) (mCons (mVar 2) mNil)) [])) mNil))
noncomputable def b6 (call : CallF) : SM := sSeq (b6_s1 call) (b6_s2 call)
abbrev s6 : Stmt := top 21
def d6 : He.DefD := ⟨("are_roads", none), "are_roads", "are_roads", defArgs s6, defBody s6, defScope s6, [], []⟩
noncomputable def p6 : PD := ⟨2, ["many", "thing", "row"], [], [], d6, b6⟩
/-! is_box -/
noncomputable def b7_s1 (call : CallF) : SM := sRet (mAndV (mApN isiO (mCons (mVar 1) (mCons (mC (.ty "str")) mNil))) (mAp2 (cmpS .In) (mVar 1) (mVar 0)))
noncomputable def b7 (call : CallF) : SM := b7_s1 call
abbrev s7 : Stmt := top 22
def d7 : He.DefD := ⟨("is_box", none), "is_box", "is_box", defArgs s7, defBody s7, defScope s7, [], []⟩
noncomputable def p7 : PD := ⟨2, ["boxes", "thing"], [], [], d7, b7⟩
/-! is_row -/
noncomputable def b8_s1 (call : CallF) : SM := sIf (mOrT (mNotT (mTru (mApN isiO (mCons (mVar 3) (mCons (mC (.ty "tuple")) mNil))))) (mOrT (mCmpT .Eq (mApN lenO (mCons (mVar 3) mNil)) (mC (.int 0))) (mNotT (mTru (mApN isiO (mCons (mAp2 ixO (mVar 3) (mC (.int 0))) (mCons (mC (.ty "str")) mNil))))))) (sRet (mC (.bl false))) sNx
noncomputable def b8_s2 (call : CallF) : SM := sRet (mAndV (mAp2 (cmpS .Eq) (mApN lenO (mCons (mVar 6) mNil)) (mC (.int 2))) (mAndV (mCall call 7 (mCons (mVar 0) (mCons (mAp2 ixO (mVar 6) (mC (.int 0))) mNil)) []) (mCall call 1 (mCons (mVar 4) (mCons (mAp2 ixO (mVar 6) (mC (.int 1))) mNil)) [])))
noncomputable def b8_s3 (call : CallF) : SM := sRet (mAndV (mAp2 (cmpS .Eq) (mApN lenO (mCons (mVar 6) mNil)) (mC (.int 1))) (mCall call 7 (mCons (mVar 0) (mCons (mAp2 ixO (mVar 6) (mC (.int 0))) mNil)) []))
noncomputable def b8_s4 (call : CallF) : SM := sRet (mAndV (mAp2 (cmpS .Eq) (mApN lenO (mCons (mVar 6) mNil)) (mC (.int 1))) (mCall call 2 (mCons (mVar 4) (mCons (mAp2 ixO (mVar 6) (mC (.int 0))) mNil)) []))
noncomputable def b8_s5 (call : CallF) : SM := sIf (mCmpT .In (mVar 5) (mApN tupO (mCons (mC (.str "want")) (mCons (mC (.str "claim")) mNil)))) (b8_s4 call) sNx
noncomputable def b8_s6 (call : CallF) : SM := sRet (mAndV (mAp2 (cmpS .Eq) (mApN lenO (mCons (mVar 6) mNil)) (mC (.int 2))) (mAndV (mCall call 2 (mCons (mVar 4) (mCons (mAp2 ixO (mVar 6) (mC (.int 0))) mNil)) []) (mCall call 5 (mCons (mVar 2) (mCons (mAp2 ixO (mVar 6) (mC (.int 1))) mNil)) [])))
noncomputable def b8_s7 (call : CallF) : SM := sRet (mAndV (mAp2 (cmpS .Eq) (mApN lenO (mCons (mVar 6) mNil)) (mC (.int 1))) (mCall call 6 (mCons (mVar 2) (mCons (mAp2 ixO (mVar 6) (mC (.int 0))) mNil)) []))
noncomputable def b8_s8 (call : CallF) : SM := sRet (mAndV (mAp2 (cmpS .Eq) (mApN lenO (mCons (mVar 6) mNil)) (mC (.int 1))) (mCall call 5 (mCons (mVar 2) (mCons (mAp2 ixO (mVar 6) (mC (.int 0))) mNil)) []))
noncomputable def b8_s9 (call : CallF) : SM := sRet (mAndV (mAp2 (cmpS .Eq) (mApN lenO (mCons (mVar 6) mNil)) (mC (.int 1))) (mAndV (mApN isiO (mCons (mAp2 ixO (mVar 6) (mC (.int 0))) (mCons (mC (.ty "str")) mNil))) (mAp2 (cmpS .In) (mAp2 ixO (mVar 6) (mC (.int 0))) (mVar 1))))
noncomputable def b8_s10 (call : CallF) : SM := sRet (mAndV (mAp2 (cmpS .Eq) (mVar 5) (mC (.str "end"))) (mAp2 (cmpS .Eq) (mVar 6) (mApN lstO (mNil))))
noncomputable def b8 (call : CallF) : SM := sSeq (b8_s1 call) (sSeq (sAsg (.tpS [.nm 5] (.nm 6)) (mVar 3)) (sSeq (sAsg (.nm 4) (mApN lenO (mCons (mVar 0) mNil))) (sSeq (sIf (mCmpT .Eq (mVar 5) (mC (.str "set"))) (b8_s2 call) sNx) (sSeq (sIf (mCmpT .Eq (mVar 5) (mC (.str "read"))) (b8_s3 call) sNx) (sSeq (b8_s5 call) (sSeq (sIf (mCmpT .Eq (mVar 5) (mC (.str "test"))) (b8_s6 call) sNx) (sSeq (sIf (mCmpT .Eq (mVar 5) (mC (.str "either"))) (b8_s7 call) sNx) (sSeq (sIf (mCmpT .Eq (mVar 5) (mC (.str "jump"))) (b8_s8 call) sNx) (sSeq (sIf (mCmpT .Eq (mVar 5) (mC (.str "call"))) (b8_s9 call) sNx) (b8_s10 call))))))))))
abbrev s8 : Stmt := top 23
def d8 : He.DefD := ⟨("is_row", none), "is_row", "is_row", defArgs s8, defBody s8, defScope s8, [], []⟩
noncomputable def p8 : PD := ⟨4, ["boxes", "behind", "many", "row", "over", "word", "rest"], [], [], d8, b8⟩
/-! wrong_thing -/
noncomputable def b9_s1 (call : CallF) : SM := sIf (mOrT (mNotT (mTru (mCallV call (okL arT 1) 1 (mCons (mVar 4) mNil)))) (mCmpTR .In (mCall call 10 (mCons (mVar 4) mNil) []) (mVar 2))) (sRet (mVar 3)) sNx
noncomputable def b9_l2 (call : CallF) : SM := sSeq (b9_s1 call) (sDrop (mApp (mVar 2) (mCons (mCall call 10 (mCons (mVar 4) mNil) []) mNil)))
noncomputable def b9 (call : CallF) : SM := sSeq (sAsg (.nm 2) (mApN newL (mNil))) (sSeq (sFor (mItN (mCons (mVar 0) mNil)) (.tp [.nm 3, .nm 4]) (b9_l2 call)) (sRet (mC (.non))))
abbrev s9 : Stmt := top 24
def d9 : He.DefD := ⟨("wrong_thing", none), "wrong_thing", "wrong_thing", defArgs s9, defBody s9, defScope s9, [], []⟩
noncomputable def p9 : PD := ⟨2, ["things", "is_good", "names", "number", "thing"], [], [(69, 12), (71, 2033)], d9, b9⟩
/-! name_of -/
noncomputable def b10_s1 (call : CallF) : SM := sIf (mTru (mApN isiO (mCons (mVar 0) (mCons (mC (.ty "tuple")) mNil)))) (sRet (mAp2 ixO (mVar 0) (mC (.int 0)))) sNx
noncomputable def b10 (call : CallF) : SM := sSeq (b10_s1 call) (sRet (mVar 0))
abbrev s10 : Stmt := top 25
def d10 : He.DefD := ⟨("name_of", none), "name_of", "name_of", defArgs s10, defBody s10, defScope s10, [], []⟩
noncomputable def p10 : PD := ⟨1, ["thing"], [], [], d10, b10⟩
/-! is_part -/
noncomputable def b11_s1 (call : CallF) : SM := sIf (mOrT (mNotT (mTru (mApN isiO (mCons (mVar 0) (mCons (mC (.ty "tuple")) mNil))))) (mOrT (mCmpT .NotEq (mApN lenO (mCons (mVar 0) mNil)) (mC (.int 2))) (mNotT (mTru (mCall call 4 (mCons (mAp2 ixO (mVar 0) (mC (.int 0))) mNil) []))))) (sRet (mC (.bl false))) sNx
noncomputable def b11_s2 (call : CallF) : SM := sRet (mAndV (mApN isiO (mCons (mAp2 ixO (mVar 0) (mC (.int 1))) (mCons (mC (.ty "list")) mNil))) (mChain .LtE .LtE (mC (.int 1)) (mApN lenO (mCons (mAp2 ixO (mVar 0) (mC (.int 1))) mNil)) (mC (.int 24))))
noncomputable def b11 (call : CallF) : SM := sSeq (b11_s1 call) (b11_s2 call)
abbrev s11 : Stmt := top 26
def d11 : He.DefD := ⟨("is_part", none), "is_part", "is_part", defArgs s11, defBody s11, defScope s11, [], []⟩
noncomputable def p11 : PD := ⟨1, ["thing"], [], [], d11, b11⟩
/-! look_at_list -/
noncomputable def b12_i1 (call : CallF) : SM := sRaise 1 ["part", "number", "row"] (mCons (mVar 0) (mCons (mC (.non)) (mCons (mC (.non)) mNil)))
noncomputable def b12_s2 (call : CallF) : SM := sIf (mOrT (mNotT (mTru (mApN isiO (mCons (mVar 1) (mCons (mC (.ty "list")) mNil))))) (mNotT (mChainT .LtE .LtE (mC (.int 1)) (mApN lenO (mCons (mVar 1) mNil)) (mVar 2)))) (b12_i1 call) sNx
noncomputable def b12_i3 (call : CallF) : SM := sRaise 1 ["part", "number", "row"] (mCons (mVar 0) (mCons (mVar 4) (mCons (mC (.non)) mNil)))
noncomputable def b12 (call : CallF) : SM := sSeq (b12_s2 call) (sSeq (sAsg (.nm 4) (mCall call 9 (mCons (mVar 1) (mCons (mVar 3) mNil)) [])) (sIf (mCmpT .IsNot (mVar 4) (mC (.non))) (b12_i3 call) sNx))
abbrev s12 : Stmt := top 27
def d12 : He.DefD := ⟨("look_at_list", none), "look_at_list", "look_at_list", defArgs s12, defBody s12, defScope s12, [], []⟩
noncomputable def p12 : PD := ⟨4, ["word", "thing", "most", "is_good", "number"], [], [], d12, b12⟩
/-! look_at -/
noncomputable def b13_s1 (call : CallF) : SM := sRaise 1 ["part", "number", "row"] (mCons (mC (.str "program")) (mCons (mC (.non)) (mCons (mC (.non)) mNil)))
noncomputable def b13_s2 (call : CallF) : SM := sIf (mOrT (mNotT (mTru (mApN isiO (mCons (mVar 0) (mCons (mC (.ty "tuple")) mNil))))) (mCmpT .NotEq (mApN lenO (mCons (mVar 0) mNil)) (mC (.int 2)))) (b13_s1 call) sNx
noncomputable def b13_s3 (call : CallF) : SM := sDrop (mCall call 12 (mCons (mC (.str "boxes")) (mCons (mVar 1) (mCons (mC (.int 8)) (mCons (mC (.fn 4)) mNil)))) [])
noncomputable def b13_s4 (call : CallF) : SM := sDrop (mCall call 12 (mCons (mC (.str "parts")) (mCons (mVar 2) (mCons (mC (.int 6)) (mCons (mC (.fn 11)) mNil)))) [])
noncomputable def b13_s5 (call : CallF) : SM := sAsg (.nm 4) (mLc (mItV (mSl (mVar 2) (mPart (mAp2 (binS .Add) (mVar 3) (mC (.int 1)))) (mNoP))) [9, 10] (.tp [.nm 9, .nm 10]) (mYes) (mVar 9))
noncomputable def b13_s6 (call : CallF) : SM := sRaise 1 ["part", "number", "row"] (mCons (mC (.str "rows")) (mCons (mVar 3) (mCons (mVar 7) mNil)))
noncomputable def b13_s7 (call : CallF) : SM := sIf (mNotT (mTru (mCall call 8 (mCons (mVar 1) (mCons (mVar 4) (mCons (mApN lenO (mCons (mVar 6) mNil)) (mCons (mVar 8) mNil)))) []))) (b13_s6 call) sNx
noncomputable def b13_s8 (call : CallF) : SM := sRaise 1 ["part", "number", "row"] (mCons (mC (.str "rows")) (mCons (mVar 3) (mCons (mVar 7) mNil)))
noncomputable def b13_s9 (call : CallF) : SM := sIf (mAndT (mCmpT .Eq (mVar 7) (mAp2 (binS .Sub) (mApN lenO (mCons (mVar 6) mNil)) (mC (.int 1)))) (mCmpT .NotIn (mAp2 ixO (mVar 8) (mC (.int 0))) (mApN tupO (mCons (mC (.str "either")) (mCons (mC (.str "jump")) (mCons (mC (.str "end")) mNil)))))) (b13_s8 call) sNx
noncomputable def b13_l10 (call : CallF) : SM := sSeq (b13_s5 call) (sFor (mItN (mCons (mVar 6) mNil)) (.tp [.nm 7, .nm 8]) (sSeq (b13_s7 call) (b13_s9 call)))
noncomputable def b13 (call : CallF) : SM := sSeq (b13_s2 call) (sSeq (sAsg (.tp [.nm 1, .nm 2]) (mVar 0)) (sSeq (b13_s3 call) (sSeq (b13_s4 call) (sFor (mItN (mCons (mVar 2) mNil)) (.tp [.nm 3, .tp [.nm 5, .nm 6]]) (b13_l10 call)))))
abbrev s13 : Stmt := top 28
def d13 : He.DefD := ⟨("look_at", none), "look_at", "look_at", defArgs s13, defBody s13, defScope s13, [], []⟩
noncomputable def p13 : PD := ⟨1, ["thing", "boxes", "parts", "number", "behind", "name", "rows", "at", "row", "other", "more"], [], [], d13, b13⟩
/-! part_numbers -/
noncomputable def b14_s1 (call : CallF) : SM := sRet (mDc (mItN (mCons (mAp2 ixO (mVar 0) (mC (.int 1))) mNil)) [1, 2, 3] (.tp [.nm 1, .tp [.nm 2, .nm 3]]) (mYes) (mVar 2) (mVar 1))
noncomputable def b14 (call : CallF) : SM := b14_s1 call
abbrev s14 : Stmt := top 29
def d14 : He.DefD := ⟨("part_numbers", none), "part_numbers", "part_numbers", defArgs s14, defBody s14, defScope s14, [], []⟩
noncomputable def p14 : PD := ⟨1, ["program", "number", "name", "rows"], [], [], d14, b14⟩
/-! row_at -/
noncomputable def b15_s1 (call : CallF) : SM := sRet (mAp2 ixO (mAp2 ixO (mAp2 ixO (mAp2 ixO (mVar 0) (mC (.int 1))) (mVar 2)) (mC (.int 1))) (mVar 3))
noncomputable def b15 (call : CallF) : SM := sSeq (sAsg (.tp [.nm 2, .nm 3]) (mVar 1)) (b15_s1 call)
abbrev s15 : Stmt := top 33
def d15 : He.DefD := ⟨("row_at", none), "row_at", "row_at", defArgs s15, defBody s15, defScope s15, [], []⟩
noncomputable def p15 : PD := ⟨2, ["program", "place", "part", "row"], [], [], d15, b15⟩
/-! is_place -/
noncomputable def b16_s1 (call : CallF) : SM := sIf (mOrT (mNotT (mTru (mApN isiO (mCons (mVar 1) (mCons (mC (.ty "tuple")) mNil))))) (mOrT (mCmpT .NotEq (mApN lenO (mCons (mVar 1) mNil)) (mC (.int 2))) (mOrT (mNotT (mTru (mCall call 0 (mCons (mAp2 ixO (mVar 1) (mC (.int 0))) mNil) []))) (mNotT (mTru (mCall call 0 (mCons (mAp2 ixO (mVar 1) (mC (.int 1))) mNil) [])))))) (sRet (mC (.bl false))) sNx
noncomputable def b16_s2 (call : CallF) : SM := sRet (mAndV (mChain .LtE .Lt (mC (.int 0)) (mAp2 ixO (mVar 1) (mC (.int 0))) (mApN lenO (mCons (mVar 2) mNil))) (mChain .LtE .Lt (mC (.int 0)) (mAp2 ixO (mVar 1) (mC (.int 1))) (mApN lenO (mCons (mAp2 ixO (mAp2 ixO (mVar 2) (mAp2 ixO (mVar 1) (mC (.int 0)))) (mC (.int 1))) mNil))))
noncomputable def b16 (call : CallF) : SM := sSeq (b16_s1 call) (sSeq (sAsg (.nm 2) (mAp2 ixO (mVar 0) (mC (.int 1)))) (b16_s2 call))
abbrev s16 : Stmt := top 34
def d16 : He.DefD := ⟨("is_place", none), "is_place", "is_place", defArgs s16, defBody s16, defScope s16, [], []⟩
noncomputable def p16 : PD := ⟨2, ["program", "thing", "parts"], [], [], d16, b16⟩
/-! are_places -/
noncomputable def b17_s1 (call : CallF) : SM := sIf (mOrT (mNotT (mTru (mApN isiO (mCons (mVar 1) (mCons (mC (.ty "tuple")) mNil))))) (mOrT (mCmpT .Eq (mVar 1) (mApN tupO (mNil))) (mNotT (mTru (mApN allO (mCons (mLc (mItV (mVar 1)) [6] (.nm 6) (mYes) (mCall call 16 (mCons (mVar 0) (mCons (mVar 6) mNil)) [])) mNil)))))) (sRet (mC (.bl false))) sNx
noncomputable def b17_s2 (call : CallF) : SM := sIf (mOrT (mCmpT .NotEq (mAp2 ixO (mVar 5) (mC (.int 0))) (mC (.str "call"))) (mCmpT .NotEq (mDLk (mVar 2) (mAp2 ixO (mVar 5) (mC (.int 1)))) (mAp2 ixO (mVar 4) (mC (.int 0))))) (sRet (mC (.bl false))) sNx
noncomputable def b17_l3 (call : CallF) : SM := sSeq (sAsg (.nm 5) (mCall call 15 (mCons (mVar 0) (mCons (mVar 3) mNil)) [])) (b17_s2 call)
noncomputable def b17_s4 (call : CallF) : SM := sFor (mItZ false (mCons (mVar 1) (mCons (mSl (mVar 1) (mPart (mC (.int 1))) (mNoP)) mNil))) (.tp [.nm 3, .nm 4]) (b17_l3 call)
noncomputable def b17 (call : CallF) : SM := sSeq (b17_s1 call) (sSeq (sAsg (.nm 2) (mCall call 14 (mCons (mVar 0) mNil) [])) (sSeq (b17_s4 call) (sRet (mAp2 (cmpS .Eq) (mAp2 ixO (mAp2 ixO (mVar 1) (mC (.int 0))) (mC (.int 0))) (mC (.int 0))))))
abbrev s17 : Stmt := top 35
def d17 : He.DefD := ⟨("are_places", none), "are_places", "are_places", defArgs s17, defBody s17, defScope s17, [], []⟩
noncomputable def p17 : PD := ⟨2, ["program", "thing", "numbers", "one", "other", "row", "place"], [], [(121, 6031)], d17, b17⟩
/-! is_stand_of -/
noncomputable def b18_s1 (call : CallF) : SM := sIf (mOrT (mNotT (mTru (mApN isiO (mCons (mVar 1) (mCons (mC (.ty "tuple")) mNil))))) (mOrT (mCmpT .Eq (mApN lenO (mCons (mVar 1) mNil)) (mC (.int 0))) (mNotT (mTru (mApN isiO (mCons (mAp2 ixO (mVar 1) (mC (.int 0))) (mCons (mC (.ty "str")) mNil))))))) (sRet (mC (.bl false))) sNx
noncomputable def b18_s2 (call : CallF) : SM := sRet (mAndV (mAp2 (cmpS .Eq) (mApN lenO (mCons (mVar 1) mNil)) (mC (.int 2))) (mCall call 17 (mCons (mVar 0) (mCons (mAp2 ixO (mVar 1) (mC (.int 1))) mNil)) []))
noncomputable def b18_s3 (call : CallF) : SM := sRet (mAp2 (cmpSR .In) (mVar 1) (mApN tupO (mCons (mC (.tup [.str "ended"])) (mCons (mC (.tup [.str "failed"])) mNil))))
noncomputable def b18 (call : CallF) : SM := sSeq (b18_s1 call) (sSeq (sIf (mCmpT .Eq (mAp2 ixO (mVar 1) (mC (.int 0))) (mC (.str "at"))) (b18_s2 call) sNx) (b18_s3 call))
abbrev s18 : Stmt := top 36
def d18 : He.DefD := ⟨("is_stand_of", none), "is_stand_of", "is_stand_of", defArgs s18, defBody s18, defScope s18, [], []⟩
noncomputable def p18 : PD := ⟨2, ["program", "thing"], [], [(129, 2011)], d18, b18⟩
/-! is_stand -/
noncomputable def b19 (call : CallF) : SM := sSeq (sDrop (mCall call 13 (mCons (mVar 0) mNil) [])) (sRet (mCall call 18 (mCons (mVar 0) (mCons (mVar 1) mNil)) []))
abbrev s19 : Stmt := top 37
def d19 : He.DefD := ⟨("is_stand", none), "is_stand", "is_stand", defArgs s19, defBody s19, defScope s19, [], []⟩
noncomputable def p19 : PD := ⟨2, ["program", "thing"], [], [], d19, b19⟩
/-! moved -/
noncomputable def b20_s1 (call : CallF) : SM := sRet (mApN tupO (mCons (mC (.str "at")) (mCons (mAp2 (binS .Add) (mApN tupleO (mCons (mVar 2) mNil)) (mApN tupO (mCons (mApN tupO (mCons (mVar 3) (mCons (mVar 1) mNil))) mNil))) mNil)))
noncomputable def b20 (call : CallF) : SM := sSeq (sAsg (.tpM (.nm 2) [.tp [.nm 3, .nm 4]]) (mVar 0)) (b20_s1 call)
abbrev s20 : Stmt := top 38
def d20 : He.DefD := ⟨("moved", none), "moved", "moved", defArgs s20, defBody s20, defScope s20, [], []⟩
noncomputable def p20 : PD := ⟨2, ["places", "row", "outer", "part", "old"], [], [], d20, b20⟩
/-! next_stand -/
noncomputable def b21_s1 (call : CallF) : SM := sRet (mCall call 20 (mCons (mVar 0) (mCons (mAp2 (binS .Add) (mAp2 ixO (mAp2 ixO (mVar 0) (mAp1 (unS .USub) (mC (.int 1)))) (mC (.int 1))) (mC (.int 1))) mNil)) [])
noncomputable def b21 (call : CallF) : SM := b21_s1 call
abbrev s21 : Stmt := top 39
def d21 : He.DefD := ⟨("next_stand", none), "next_stand", "next_stand", defArgs s21, defBody s21, defScope s21, [], []⟩
noncomputable def p21 : PD := ⟨1, ["places"], [], [], d21, b21⟩
/-! ended_stand -/
noncomputable def b22_s1 (call : CallF) : SM := sIf (mCmpT .Eq (mApN lenO (mCons (mVar 0) mNil)) (mC (.int 1))) (sRet (mC (.tup [.str "ended"]))) sNx
noncomputable def b22 (call : CallF) : SM := sSeq (b22_s1 call) (sRet (mCall call 21 (mCons (mSl (mVar 0) (mNoP) (mPart (mAp1 (unS .USub) (mC (.int 1))))) mNil) []))
abbrev s22 : Stmt := top 40
def d22 : He.DefD := ⟨("ended_stand", none), "ended_stand", "ended_stand", defArgs s22, defBody s22, defScope s22, [], []⟩
noncomputable def p22 : PD := ⟨1, ["places"], [], [], d22, b22⟩
/-! deed_of -/
noncomputable def b23_s1 (call : CallF) : SM := sRet (mApN tupO (mCons (mC (.str "set")) (mCons (mMt okFz indexO (mVar 2) (mCons (mAp2 ixO (mVar 1) (mC (.int 1))) mNil)) (mCons (mAp2 ixO (mVar 1) (mC (.int 2))) mNil))))
noncomputable def b23_s2 (call : CallF) : SM := sRet (mApN tupO (mCons (mC (.str "read")) (mCons (mMt okFz indexO (mVar 2) (mCons (mAp2 ixO (mVar 1) (mC (.int 1))) mNil)) mNil)))
noncomputable def b23 (call : CallF) : SM := sSeq (sAsg (.nm 2) (mAp2 ixO (mVar 0) (mC (.int 0)))) (sSeq (sIf (mCmpT .Eq (mAp2 ixO (mVar 1) (mC (.int 0))) (mC (.str "set"))) (b23_s1 call) sNx) (sSeq (sIf (mCmpT .Eq (mAp2 ixO (mVar 1) (mC (.int 0))) (mC (.str "read"))) (b23_s2 call) sNx) (sRet (mC (.non)))))
abbrev s23 : Stmt := top 41
def d23 : He.DefD := ⟨("deed_of", none), "deed_of", "deed_of", defArgs s23, defBody s23, defScope s23, [], []⟩
noncomputable def p23 : PD := ⟨2, ["program", "row", "boxes"], [], [], d23, b23⟩
/-! exits_of -/
noncomputable def b24_s1 (call : CallF) : SM := sIf (mCmpTR .In (mVar 1) (mApN tupO (mCons (mC (.tup [.str "ended"])) (mCons (mC (.tup [.str "failed"])) mNil)))) (sRet (mApN lstO (mNil))) sNx
noncomputable def b24_s2 (call : CallF) : SM := sAsg (.nm 3) (mCall call 15 (mCons (mVar 0) (mCons (mAp2 ixO (mVar 2) (mAp1 (unS .USub) (mC (.int 1)))) mNil)) [])
noncomputable def b24_s3 (call : CallF) : SM := sRet (mApN lstO (mCons (mApN tupO (mCons (mC (.non)) (mCons (mCall call 23 (mCons (mVar 0) (mCons (mVar 3) mNil)) []) (mCons (mCall call 21 (mCons (mVar 2) mNil) []) mNil)))) mNil))
noncomputable def b24_s4 (call : CallF) : SM := sIf (mCmpT .In (mVar 4) (mApN tupO (mCons (mC (.str "set")) (mCons (mC (.str "read")) mNil)))) (b24_s3 call) sNx
noncomputable def b24_s5 (call : CallF) : SM := sRet (mApN lstO (mCons (mApN tupO (mCons (mAp2 ixO (mVar 3) (mC (.int 1))) (mCons (mC (.non)) (mCons (mCall call 21 (mCons (mVar 2) mNil) []) mNil)))) mNil))
noncomputable def b24_s6 (call : CallF) : SM := sRet (mApN lstO (mCons (mApN tupO (mCons (mAp2 ixO (mVar 3) (mC (.int 1))) (mCons (mC (.non)) (mCons (mCall call 21 (mCons (mVar 2) mNil) []) mNil)))) (mCons (mApN tupO (mCons (mCall call 3 (mCons (mAp2 ixO (mVar 3) (mC (.int 1))) mNil) []) (mCons (mC (.non)) (mCons (mC (.tup [.str "failed"])) mNil)))) mNil)))
noncomputable def b24_s7 (call : CallF) : SM := sRet (mApN lstO (mCons (mApN tupO (mCons (mAp2 ixO (mVar 3) (mC (.int 1))) (mCons (mC (.non)) (mCons (mCall call 21 (mCons (mVar 2) mNil) []) mNil)))) (mCons (mApN tupO (mCons (mCall call 3 (mCons (mAp2 ixO (mVar 3) (mC (.int 1))) mNil) []) (mCons (mC (.non)) (mCons (mCall call 20 (mCons (mVar 2) (mCons (mAp2 ixO (mVar 3) (mC (.int 2))) mNil)) []) mNil)))) mNil)))
noncomputable def b24_s8 (call : CallF) : SM := sRet (mLc (mItV (mAp2 ixO (mVar 3) (mC (.int 1)))) [5] (.nm 5) (mYes) (mApN tupO (mCons (mC (.non)) (mCons (mC (.non)) (mCons (mCall call 20 (mCons (mVar 2) (mCons (mVar 5) mNil)) []) mNil)))))
noncomputable def b24_s9 (call : CallF) : SM := sRet (mApN lstO (mCons (mApN tupO (mCons (mC (.non)) (mCons (mC (.non)) (mCons (mCall call 20 (mCons (mVar 2) (mCons (mAp2 ixO (mVar 3) (mC (.int 1))) mNil)) []) mNil)))) mNil))
noncomputable def b24_s10 (call : CallF) : SM := sRet (mApN lstO (mCons (mApN tupO (mCons (mC (.non)) (mCons (mC (.non)) (mCons (mApN tupO (mCons (mC (.str "at")) (mCons (mAp2 (binS .Add) (mVar 2) (mApN tupO (mCons (mApN tupO (mCons (mDLk (mCall call 14 (mCons (mVar 0) mNil) []) (mAp2 ixO (mVar 3) (mC (.int 1)))) (mCons (mC (.int 0)) mNil))) mNil))) mNil))) mNil)))) mNil))
noncomputable def b24_s11 (call : CallF) : SM := sRet (mApN lstO (mCons (mApN tupO (mCons (mC (.non)) (mCons (mC (.non)) (mCons (mCall call 22 (mCons (mVar 2) mNil) []) mNil)))) mNil))
noncomputable def b24 (call : CallF) : SM := sSeq (b24_s1 call) (sSeq (sAsg (.nm 2) (mAp2 ixO (mVar 1) (mC (.int 1)))) (sSeq (b24_s2 call) (sSeq (sAsg (.nm 4) (mAp2 ixO (mVar 3) (mC (.int 0)))) (sSeq (b24_s4 call) (sSeq (sIf (mCmpT .Eq (mVar 4) (mC (.str "want"))) (b24_s5 call) sNx) (sSeq (sIf (mCmpT .Eq (mVar 4) (mC (.str "claim"))) (b24_s6 call) sNx) (sSeq (sIf (mCmpT .Eq (mVar 4) (mC (.str "test"))) (b24_s7 call) sNx) (sSeq (sIf (mCmpT .Eq (mVar 4) (mC (.str "either"))) (b24_s8 call) sNx) (sSeq (sIf (mCmpT .Eq (mVar 4) (mC (.str "jump"))) (b24_s9 call) sNx) (sSeq (sIf (mCmpT .Eq (mVar 4) (mC (.str "call"))) (b24_s10 call) sNx) (b24_s11 call)))))))))))
abbrev s24 : Stmt := top 42
def d24 : He.DefD := ⟨("exits_of", none), "exits_of", "exits_of", defArgs s24, defBody s24, defScope s24, [], []⟩
noncomputable def p24 : PD := ⟨2, ["program", "stand", "places", "row", "word", "road"], [], [(150, 2007), (168, 6047)], d24, b24⟩
/-! exits -/
noncomputable def b25 (call : CallF) : SM := sSeq (sDrop (mCall call 13 (mCons (mVar 0) mNil) [])) (sSeq (sIf (mNotT (mTru (mCall call 18 (mCons (mVar 0) (mCons (mVar 1) mNil)) []))) (sThrow 2) sNx) (sRet (mCall call 24 (mCons (mVar 0) (mCons (mVar 1) mNil)) [])))
abbrev s25 : Stmt := top 43
def d25 : He.DefD := ⟨("exits", none), "exits", "exits", defArgs s25, defBody s25, defScope s25, [], []⟩
noncomputable def p25 : PD := ⟨2, ["program", "stand"], [], [], d25, b25⟩
/-! _law_pool -/
noncomputable def b26_i1 (call : CallF) : SM := sAsg (.nm 2) (mAp2 ixO (mVar 0) (mVar 1))
noncomputable def b26_s2 (call : CallF) : SM := sAsg (.nm 3) (mApN maxO (mCons (mVar 2) (mCons (mAp2 (binS .Sub) (mAp1 (unS .USub) (mC (.int 1))) (mVar 2)) mNil)))
noncomputable def b26_s3 (call : CallF) : SM := sAsg (.nm 4) (mAp2 (binS .Mod) (mAp2 (binS .Add) (mAp2 (binS .Add) (mAp2 (binS .Mult) (mAp2 (binS .Mod) (mVar 3) (mC (.int 2147483629))) (mC (.int 16807))) (mAp2 (binS .Mult) (mC (.int 104729)) (mVar 1))) (mC (.int 11))) (mC (.int 2147483647)))
noncomputable def b26_s4 (call : CallF) : SM := sIf (mCmpT .Lt (mVar 3) (mAp2 (binS .Pow) (mC (.int 10)) (mC (.int 18)))) (sAsg (.nm 3) (mC (.int 0))) sNx
noncomputable def b26 (call : CallF) : SM := sSeq (sAsg (.nm 2) (mC (.int 0))) (sSeq (sIf (mCmpT .Lt (mVar 1) (mApN lenO (mCons (mVar 0) mNil))) (b26_i1 call) sNx) (sSeq (b26_s2 call) (sSeq (b26_s3 call) (sSeq (b26_s4 call) (sRet (mApN newL (mCons (mVar 3) (mCons (mVar 4) mNil))))))))
abbrev s26 : Stmt := top 45
def d26 : He.DefD := ⟨("_law_pool", none), "_law_pool", "_law_pool", defArgs s26, defBody s26, defScope s26, [], []⟩
noncomputable def p26 : PD := ⟨2, ["_law_script", "_law_k", "_law_cell", "_law_number", "_law_seed"], [], [(184, 11)], d26, b26⟩
/-! _law_take -/
noncomputable def b27_i1 (call : CallF) : SM := sSeq (sAsg (.nm 2) (mAp2 (binS .Mod) (mAp2 ixO (mVar 0) (mC (.int 0))) (mVar 1))) (sSeq (sSetIx (mVar 0) (mC (.int 0)) (mAp2 (binS .FloorDiv) (mAp2 ixO (mVar 0) (mC (.int 0))) (mVar 1))) (sRet (mVar 2)))
noncomputable def b27_s2 (call : CallF) : SM := sSetIx (mVar 0) (mC (.int 1)) (mAp2 (binS .Mod) (mAp2 (binS .Add) (mAp2 (binS .Mult) (mAp2 ixO (mVar 0) (mC (.int 1))) (mC (.int 48271))) (mC (.int 11))) (mC (.int 2147483647)))
noncomputable def b27_s3 (call : CallF) : SM := sRet (mAp2 (binS .Mod) (mAp2 (binS .FloorDiv) (mAp2 (binS .Mod) (mAp2 (binS .Mult) (mAp2 ixO (mVar 0) (mC (.int 1))) (mAp2 ixO (mVar 0) (mC (.int 1)))) (mC (.int 2147483629))) (mC (.int 64))) (mVar 1))
noncomputable def b27 (call : CallF) : SM := sSeq (sIf (mCmpT .Gt (mAp2 ixO (mVar 0) (mC (.int 0))) (mC (.int 0))) (b27_i1 call) sNx) (sSeq (b27_s2 call) (b27_s3 call))
abbrev s27 : Stmt := top 46
def d27 : He.DefD := ⟨("_law_take", none), "_law_take", "_law_take", defArgs s27, defBody s27, defScope s27, [], []⟩
noncomputable def p27 : PD := ⟨2, ["_law_pool_here", "_law_many", "_law_digit"], [], [], d27, b27⟩
/-! _law_line -/
noncomputable def b28_s1 (call : CallF) : SM := sAsg (.nm 2) (mApN newL (mCons (mAp2 ixO (mApN lstO (mCons (mC (.int 0)) (mCons (mC (.int 1)) (mCons (mAp1 (unS .USub) (mC (.int 1))) (mCons (mC (.int 2)) (mCons (mAp1 (unS .USub) (mC (.int 3))) (mCons (mC (.int 5)) (mCons (mC (.int 10)) (mCons (mAp1 (unS .USub) (mC (.int 7))) mNil))))))))) (mCall call 27 (mCons (mVar 0) (mCons (mC (.int 8)) mNil)) [])) mNil))
noncomputable def b28_s2 (call : CallF) : SM := sDrop (mApp (mVar 2) (mCons (mAp2 ixO (mApN lstO (mCons (mC (.int 0)) (mCons (mC (.int 0)) (mCons (mC (.int 1)) (mCons (mC (.int 1)) (mCons (mAp1 (unS .USub) (mC (.int 1))) (mCons (mAp1 (unS .USub) (mC (.int 1))) (mCons (mC (.int 2)) (mCons (mAp1 (unS .USub) (mC (.int 3))) mNil))))))))) (mCall call 27 (mCons (mVar 0) (mCons (mC (.int 8)) mNil)) [])) mNil))
noncomputable def b28 (call : CallF) : SM := sSeq (b28_s1 call) (sSeq (sFor (mItR (mCons (mVar 1) mNil)) (.nm 3) (b28_s2 call)) (sRet (mApN tupleO (mCons (mVar 2) mNil))))
abbrev s28 : Stmt := top 47
def d28 : He.DefD := ⟨("_law_line", none), "_law_line", "_law_line", defArgs s28, defBody s28, defScope s28, [], []⟩
noncomputable def p28 : PD := ⟨2, ["_law_pool_here", "_law_many", "_law_line_here", "_law_box"], [], [(193, 21)], d28, b28⟩
/-! _law_wish -/
noncomputable def b29_s1 (call : CallF) : SM := sRet (mApN tupO (mCons (mAp2 ixO (mApN lstO (mCons (mC (.str "least")) (mCons (mC (.str "least")) (mCons (mC (.str "above")) mNil)))) (mCall call 27 (mCons (mVar 0) (mCons (mC (.int 3)) mNil)) [])) (mCons (mCall call 28 (mCons (mVar 0) (mCons (mVar 1) mNil)) []) mNil)))
noncomputable def b29 (call : CallF) : SM := b29_s1 call
abbrev s29 : Stmt := top 48
def d29 : He.DefD := ⟨("_law_wish", none), "_law_wish", "_law_wish", defArgs s29, defBody s29, defScope s29, [], []⟩
noncomputable def p29 : PD := ⟨2, ["_law_pool_here", "_law_many"], [], [], d29, b29⟩
/-! _law_row -/
noncomputable def b30_s1 (call : CallF) : SM := sAsg (.nm 5) (mAp2 ixO (mApN lstO (mCons (mC (.str "set")) (mCons (mC (.str "set")) (mCons (mC (.str "read")) (mCons (mC (.str "want")) (mCons (mC (.str "claim")) (mCons (mC (.str "claim")) (mCons (mC (.str "test")) (mCons (mC (.str "either")) (mCons (mC (.str "jump")) (mCons (mC (.str "call")) mNil))))))))))) (mCall call 27 (mCons (mVar 0) (mCons (mC (.int 10)) mNil)) []))
noncomputable def b30_s2 (call : CallF) : SM := sRet (mApN tupO (mCons (mVar 5) (mCons (mVar 6) (mCons (mCall call 28 (mCons (mVar 0) (mCons (mVar 4) mNil)) []) mNil))))
noncomputable def b30_s3 (call : CallF) : SM := sRet (mApN tupO (mCons (mVar 5) (mCons (mCall call 29 (mCons (mVar 0) (mCons (mVar 4) mNil)) []) mNil)))
noncomputable def b30_s4 (call : CallF) : SM := sIf (mOrT (mCmpT .Eq (mVar 5) (mC (.str "want"))) (mCmpT .Eq (mVar 5) (mC (.str "claim")))) (b30_s3 call) sNx
noncomputable def b30_s5 (call : CallF) : SM := sRet (mApN tupO (mCons (mVar 5) (mCons (mCall call 29 (mCons (mVar 0) (mCons (mVar 4) mNil)) []) (mCons (mCall call 27 (mCons (mVar 0) (mCons (mVar 3) mNil)) []) mNil))))
noncomputable def b30_s6 (call : CallF) : SM := sRet (mApN tupO (mCons (mVar 5) (mCons (mApN tupleO (mCons (mLc (mItR (mCons (mAp2 (binS .Add) (mC (.int 2)) (mCall call 27 (mCons (mVar 0) (mCons (mC (.int 3)) mNil)) [])) mNil)) [7] (.nm 7) (mYes) (mCall call 27 (mCons (mVar 0) (mCons (mVar 3) mNil)) [])) mNil)) mNil)))
noncomputable def b30_s7 (call : CallF) : SM := sRet (mApN tupO (mCons (mVar 5) (mCons (mCall call 27 (mCons (mVar 0) (mCons (mVar 3) mNil)) []) mNil)))
noncomputable def b30_s8 (call : CallF) : SM := sIf (mAndT (mCmpT .Eq (mVar 5) (mC (.str "jump"))) (mCmpT .Gt (mVar 3) (mC (.int 1)))) (b30_s7 call) sNx
noncomputable def b30_s9 (call : CallF) : SM := sRet (mApN tupO (mCons (mVar 5) (mCons (mAp2 ixO (mVar 2) (mCall call 27 (mCons (mVar 0) (mCons (mApN lenO (mCons (mVar 2) mNil)) mNil)) [])) mNil)))
noncomputable def b30_s10 (call : CallF) : SM := sIf (mAndT (mCmpT .Eq (mVar 5) (mC (.str "call"))) (mCmpT .NotEq (mVar 2) (mApN lstO (mNil)))) (b30_s9 call) sNx
noncomputable def b30 (call : CallF) : SM := sSeq (sAsg (.nm 4) (mApN lenO (mCons (mVar 1) mNil))) (sSeq (b30_s1 call) (sSeq (sAsg (.nm 6) (mAp2 ixO (mVar 1) (mCall call 27 (mCons (mVar 0) (mCons (mVar 4) mNil)) []))) (sSeq (sIf (mCmpT .Eq (mVar 5) (mC (.str "set"))) (b30_s2 call) sNx) (sSeq (b30_s4 call) (sSeq (sIf (mCmpT .Eq (mVar 5) (mC (.str "test"))) (b30_s5 call) sNx) (sSeq (sIf (mCmpT .Eq (mVar 5) (mC (.str "either"))) (b30_s6 call) sNx) (sSeq (b30_s8 call) (sSeq (b30_s10 call) (sRet (mApN tupO (mCons (mC (.str "read")) (mCons (mVar 6) mNil))))))))))))
abbrev s30 : Stmt := top 49
def d30 : He.DefD := ⟨("_law_row", none), "_law_row", "_law_row", defArgs s30, defBody s30, defScope s30, [], []⟩
noncomputable def p30 : PD := ⟨4, ["_law_pool_here", "_law_boxes", "_law_behind", "_law_many", "_law_size", "_law_word", "_law_box", "_law_k"], [], [], d30, b30⟩
/-! _law_program -/
noncomputable def b31_s1 (call : CallF) : SM := sAsg (.nm 4) (mSl (mApN lstO (mCons (mC (.str "x")) (mCons (mC (.str "y")) (mCons (mC (.str "z")) (mCons (mC (.str "total")) (mCons (mC (.str "k")) (mCons (mC (.str "m")) (mCons (mC (.str "n")) (mCons (mC (.str "w")) mNil))))))))) (mNoP) (mPart (mAp2 (binS .Add) (mC (.int 1)) (mCall call 27 (mCons (mVar 0) (mCons (mVar 1) mNil)) []))))
noncomputable def b31_s2 (call : CallF) : SM := sAsg (.nm 5) (mSl (mApN lstO (mCons (mC (.str "main")) (mCons (mC (.str "step")) (mCons (mC (.str "x")) (mCons (mC (.str "a")) (mCons (mC (.str "bc")) (mCons (mC (.str "last")) mNil))))))) (mNoP) (mPart (mAp2 (binS .Add) (mC (.int 1)) (mCall call 27 (mCons (mVar 0) (mCons (mVar 3) mNil)) []))))
noncomputable def b31_s3 (call : CallF) : SM := sAsg (.nm 9) (mAp2 (binS .Add) (mC (.int 1)) (mCall call 27 (mCons (mVar 0) (mCons (mVar 2) mNil)) []))
noncomputable def b31_s4 (call : CallF) : SM := sAsg (.nm 10) (mLc (mItR (mCons (mAp2 (binS .Sub) (mVar 9) (mC (.int 1))) mNil)) [12] (.nm 12) (mYes) (mCall call 30 (mCons (mVar 0) (mCons (mVar 4) (mCons (mSl (mVar 5) (mPart (mAp2 (binS .Add) (mVar 7) (mC (.int 1)))) (mNoP)) (mCons (mVar 9) mNil)))) []))
noncomputable def b31_s5 (call : CallF) : SM := sAsg (.nm 11) (mApN lstO (mCons (mApN tupO (mCons (mC (.str "end")) mNil)) (mCons (mApN tupO (mCons (mC (.str "end")) mNil)) (mCons (mApN tupO (mCons (mC (.str "jump")) (mCons (mCall call 27 (mCons (mVar 0) (mCons (mVar 9) mNil)) []) mNil))) (mCons (mApN tupO (mCons (mC (.str "either")) (mCons (mApN tupO (mCons (mCall call 27 (mCons (mVar 0) (mCons (mVar 9) mNil)) []) (mCons (mC (.int 0)) mNil))) mNil))) mNil)))))
noncomputable def b31_s6 (call : CallF) : SM := sDrop (mApp (mVar 6) (mCons (mApN tupO (mCons (mVar 8) (mCons (mAp2 (binS .Add) (mVar 10) (mApN lstO (mCons (mAp2 ixO (mVar 11) (mCall call 27 (mCons (mVar 0) (mCons (mC (.int 4)) mNil)) [])) mNil))) mNil))) mNil))
noncomputable def b31_l7 (call : CallF) : SM := sSeq (b31_s3 call) (sSeq (b31_s4 call) (sSeq (b31_s5 call) (b31_s6 call)))
noncomputable def b31 (call : CallF) : SM := sSeq (b31_s1 call) (sSeq (b31_s2 call) (sSeq (sAsg (.nm 6) (mApN newL (mNil))) (sSeq (sFor (mItN (mCons (mVar 5) mNil)) (.tp [.nm 7, .nm 8]) (b31_l7 call)) (sRet (mApN tupO (mCons (mVar 4) (mCons (mFrz (mVar 6)) mNil)))))))
abbrev s31 : Stmt := top 50
def d31 : He.DefD := ⟨("_law_program", none), "_law_program", "_law_program", defArgs s31, defBody s31, defScope s31, [], []⟩
noncomputable def p31 : PD := ⟨4, ["_law_pool_here", "_law_size", "_law_most", "_law_parts", "_law_boxes", "_law_names", "_law_found", "_law_number", "_law_name", "_law_many", "_law_rows", "_law_last", "_law_k"], [], [(219, 17), (225, 1024)], d31, b31⟩
/-! _law_moved -/
noncomputable def b32_s1 (call : CallF) : SM := sRet (mApN tupO (mCons (mC (.str "at")) (mCons (mAp2 (binS .Add) (mSl (mVar 0) (mNoP) (mPart (mAp1 (unS .USub) (mC (.int 1))))) (mApN tupO (mCons (mApN tupO (mCons (mAp2 ixO (mAp2 ixO (mVar 0) (mAp1 (unS .USub) (mC (.int 1)))) (mC (.int 0))) (mCons (mVar 1) mNil))) mNil))) mNil)))
noncomputable def b32 (call : CallF) : SM := b32_s1 call
abbrev s32 : Stmt := top 51
def d32 : He.DefD := ⟨("_law_moved", none), "_law_moved", "_law_moved", defArgs s32, defBody s32, defScope s32, [], []⟩
noncomputable def p32 : PD := ⟨2, ["_law_places", "_law_row_here"], [], [], d32, b32⟩
/-! _law_exits -/
noncomputable def b33_s1 (call : CallF) : SM := sAsg (.nm 4) (mCall call 32 (mCons (mVar 2) (mCons (mAp2 (binS .Add) (mVar 8) (mC (.int 1))) mNil)) [])
noncomputable def b33_s2 (call : CallF) : SM := sRet (mApN lstO (mCons (mApN tupO (mCons (mC (.non)) (mCons (mApN tupO (mCons (mC (.str "set")) (mCons (mMt okFz indexO (mVar 5) (mCons (mAp2 ixO (mVar 3) (mC (.int 1))) mNil)) (mCons (mAp2 ixO (mVar 3) (mC (.int 2))) mNil)))) (mCons (mVar 4) mNil)))) mNil))
noncomputable def b33_s3 (call : CallF) : SM := sRet (mApN lstO (mCons (mApN tupO (mCons (mC (.non)) (mCons (mApN tupO (mCons (mC (.str "read")) (mCons (mMt okFz indexO (mVar 5) (mCons (mAp2 ixO (mVar 3) (mC (.int 1))) mNil)) mNil))) (mCons (mVar 4) mNil)))) mNil))
noncomputable def b33_s4 (call : CallF) : SM := sAsg (.nm 9) (mAp2 ixO (mApN lstO (mCons (mC (.str "least")) (mCons (mC (.str "above")) mNil))) (mApN intO (mCons (mAp2 (cmpS .Eq) (mAp2 ixO (mAp2 ixO (mVar 3) (mC (.int 1))) (mC (.int 0))) (mC (.str "least"))) mNil)))
noncomputable def b33_s5 (call : CallF) : SM := sAsg (.nm 10) (mApN tupO (mCons (mVar 9) (mCons (mApN tupleO (mCons (mLc (mItV (mAp2 ixO (mAp2 ixO (mVar 3) (mC (.int 1))) (mC (.int 1)))) [12] (.nm 12) (mYes) (mAp2 (binS .Sub) (mC (.int 0)) (mVar 12))) mNil)) mNil)))
noncomputable def b33_i6 (call : CallF) : SM := sAsg (.nm 11) (mCall call 32 (mCons (mVar 2) (mCons (mAp2 ixO (mVar 3) (mC (.int 2))) mNil)) [])
noncomputable def b33_s7 (call : CallF) : SM := sRet (mAp2 (binS .Add) (mApN lstO (mCons (mApN tupO (mCons (mAp2 ixO (mVar 3) (mC (.int 1))) (mCons (mC (.non)) (mCons (mVar 4) mNil)))) mNil)) (mAp2 (binS .Mult) (mApN lstO (mCons (mApN tupO (mCons (mVar 10) (mCons (mC (.non)) (mCons (mVar 11) mNil)))) mNil)) (mApN intO (mCons (mAp2 (cmpS .NotEq) (mAp2 ixO (mVar 3) (mC (.int 0))) (mC (.str "want"))) mNil))))
noncomputable def b33_i8 (call : CallF) : SM := sSeq (b33_s4 call) (sSeq (b33_s5 call) (sSeq (sAsg (.nm 11) (mApN tupO (mCons (mC (.str "failed")) mNil))) (sSeq (sIf (mCmpT .Eq (mAp2 ixO (mVar 3) (mC (.int 0))) (mC (.str "test"))) (b33_i6 call) sNx) (b33_s7 call))))
noncomputable def b33_s9 (call : CallF) : SM := sIf (mCmpT .In (mAp2 ixO (mVar 3) (mC (.int 0))) (mApN lstO (mCons (mC (.str "want")) (mCons (mC (.str "claim")) (mCons (mC (.str "test")) mNil))))) (b33_i8 call) sNx
noncomputable def b33_s10 (call : CallF) : SM := sRet (mLc (mItV (mAp2 ixO (mVar 3) (mC (.int 1)))) [13] (.nm 13) (mYes) (mApN tupO (mCons (mC (.non)) (mCons (mC (.non)) (mCons (mCall call 32 (mCons (mVar 2) (mCons (mVar 13) mNil)) []) mNil)))))
noncomputable def b33_s11 (call : CallF) : SM := sRet (mApN lstO (mCons (mApN tupO (mCons (mC (.non)) (mCons (mC (.non)) (mCons (mCall call 32 (mCons (mVar 2) (mCons (mAp2 ixO (mVar 3) (mC (.int 1))) mNil)) []) mNil)))) mNil))
noncomputable def b33_s12 (call : CallF) : SM := sAsg (.nm 12) (mMt okFz indexO (mLc (mItV (mVar 6)) [14, 15] (.tp [.nm 14, .nm 15]) (mYes) (mVar 14)) (mCons (mAp2 ixO (mVar 3) (mC (.int 1))) mNil))
noncomputable def b33_s13 (call : CallF) : SM := sRet (mApN lstO (mCons (mApN tupO (mCons (mC (.non)) (mCons (mC (.non)) (mCons (mApN tupO (mCons (mC (.str "at")) (mCons (mAp2 (binS .Add) (mVar 2) (mApN tupO (mCons (mApN tupO (mCons (mVar 12) (mCons (mC (.int 0)) mNil))) mNil))) mNil))) mNil)))) mNil))
noncomputable def b33_s14 (call : CallF) : SM := sIf (mCmpT .Eq (mAp2 ixO (mVar 3) (mC (.int 0))) (mC (.str "call"))) (sSeq (b33_s12 call) (b33_s13 call)) sNx
noncomputable def b33_s15 (call : CallF) : SM := sRet (mApN lstO (mCons (mApN tupO (mCons (mC (.non)) (mCons (mC (.non)) (mCons (mApN tupO (mCons (mC (.str "ended")) mNil)) mNil)))) mNil))
noncomputable def b33_s16 (call : CallF) : SM := sRet (mApN lstO (mCons (mApN tupO (mCons (mC (.non)) (mCons (mC (.non)) (mCons (mCall call 32 (mCons (mSl (mVar 2) (mNoP) (mPart (mAp1 (unS .USub) (mC (.int 1))))) (mCons (mAp2 (binS .Add) (mAp2 ixO (mAp2 ixO (mVar 2) (mAp1 (unS .USub) (mC (.int 2)))) (mC (.int 1))) (mC (.int 1))) mNil)) []) mNil)))) mNil))
noncomputable def b33 (call : CallF) : SM := sSeq (sIf (mCmpT .NotEq (mAp2 ixO (mVar 1) (mC (.int 0))) (mC (.str "at"))) (sRet (mApN lstO (mNil))) sNx) (sSeq (sAsg (.tp [.nm 5, .nm 6]) (mVar 0)) (sSeq (sAsg (.nm 2) (mAp2 ixO (mVar 1) (mC (.int 1)))) (sSeq (sAsg (.tp [.nm 7, .nm 8]) (mAp2 ixO (mVar 2) (mAp1 (unS .USub) (mC (.int 1))))) (sSeq (sAsg (.nm 3) (mAp2 ixO (mAp2 ixO (mAp2 ixO (mVar 6) (mVar 7)) (mC (.int 1))) (mVar 8))) (sSeq (b33_s1 call) (sSeq (sIf (mCmpT .Eq (mAp2 ixO (mVar 3) (mC (.int 0))) (mC (.str "set"))) (b33_s2 call) sNx) (sSeq (sIf (mCmpT .Eq (mAp2 ixO (mVar 3) (mC (.int 0))) (mC (.str "read"))) (b33_s3 call) sNx) (sSeq (b33_s9 call) (sSeq (sIf (mCmpT .Eq (mAp2 ixO (mVar 3) (mC (.int 0))) (mC (.str "either"))) (b33_s10 call) sNx) (sSeq (sIf (mCmpT .Eq (mAp2 ixO (mVar 3) (mC (.int 0))) (mC (.str "jump"))) (b33_s11 call) sNx) (sSeq (b33_s14 call) (sSeq (sIf (mCmpT .Eq (mApN lenO (mCons (mVar 2) mNil)) (mC (.int 1))) (b33_s15 call) sNx) (b33_s16 call)))))))))))))
abbrev s33 : Stmt := top 52
def d33 : He.DefD := ⟨("_law_exits", none), "_law_exits", "_law_exits", defArgs s33, defBody s33, defScope s33, [], []⟩
noncomputable def p33 : PD := ⟨2, ["_law_program_here", "_law_stand", "_law_places", "_law_row_here", "_law_on", "_law_boxes", "_law_parts", "_law_part", "_law_at", "_law_sign", "_law_other", "_law_away", "_law_number", "_law_road", "_law_name", "_law_rows"], [], [], d33, b33⟩
/-! _law_is_place -/
noncomputable def b34_s1 (call : CallF) : SM := sIf (mOrT (mNotT (mTru (mApN isiO (mCons (mVar 1) (mCons (mC (.ty "tuple")) mNil))))) (mCmpT .NotEq (mApN lenO (mCons (mVar 1) mNil)) (mC (.int 2)))) (sRet (mC (.bl false))) sNx
noncomputable def b34_s2 (call : CallF) : SM := sIf (mCmpT .NotEq (mLc (mItV (mVar 1)) [2] (.nm 2) (mOrT (mNotT (mTru (mApN isiO (mCons (mVar 2) (mCons (mC (.ty "int")) mNil))))) (mTru (mApN isiO (mCons (mVar 2) (mCons (mC (.ty "bool")) mNil))))) (mVar 2)) (mApN lstO (mNil))) (sRet (mC (.bl false))) sNx
noncomputable def b34_s3 (call : CallF) : SM := sRet (mAndV (mChain .LtE .Lt (mC (.int 0)) (mAp2 ixO (mVar 1) (mC (.int 0))) (mApN lenO (mCons (mAp2 ixO (mVar 0) (mC (.int 1))) mNil))) (mChain .LtE .Lt (mC (.int 0)) (mAp2 ixO (mVar 1) (mC (.int 1))) (mApN lenO (mCons (mAp2 ixO (mAp2 ixO (mAp2 ixO (mVar 0) (mC (.int 1))) (mAp2 ixO (mVar 1) (mC (.int 0)))) (mC (.int 1))) mNil))))
noncomputable def b34 (call : CallF) : SM := sSeq (b34_s1 call) (sSeq (b34_s2 call) (b34_s3 call))
abbrev s34 : Stmt := top 53
def d34 : He.DefD := ⟨("_law_is_place", none), "_law_is_place", "_law_is_place", defArgs s34, defBody s34, defScope s34, [], []⟩
noncomputable def p34 : PD := ⟨2, ["_law_program_here", "_law_thing", "_law_part"], [], [], d34, b34⟩
/-! _law_due -/
noncomputable def b35_i1 (call : CallF) : SM := sRet (mApN isiO (mCons (mVar 1) (mCons (mC (.ty "tuple")) mNil)))
noncomputable def b35_s2 (call : CallF) : SM := sIf (mOrT (mCmpT .Eq (mVar 1) (mApN tupO (mCons (mC (.str "ended")) mNil))) (mCmpT .Eq (mVar 1) (mApN tupO (mCons (mC (.str "failed")) mNil)))) (b35_i1 call) sNx
noncomputable def b35_s3 (call : CallF) : SM := sIf (mOrT (mNotT (mTru (mApN isiO (mCons (mVar 1) (mCons (mC (.ty "tuple")) mNil))))) (mOrT (mCmpT .NotEq (mApN lenO (mCons (mVar 1) mNil)) (mC (.int 2))) (mOrT (mCmpT .NotEq (mAp2 ixO (mVar 1) (mC (.int 0))) (mC (.str "at"))) (mNotT (mTru (mApN isiO (mCons (mAp2 ixO (mVar 1) (mC (.int 1))) (mCons (mC (.ty "tuple")) mNil)))))))) (sRet (mC (.bl false))) sNx
noncomputable def b35_s4 (call : CallF) : SM := sIf (mOrT (mCmpT .Eq (mVar 2) (mApN tupO (mNil))) (mOrT (mCmpT .NotEq (mLc (mItV (mVar 2)) [8] (.nm 8) (mNotT (mTru (mCall call 34 (mCons (mVar 0) (mCons (mVar 8) mNil)) []))) (mVar 8)) (mApN lstO (mNil))) (mCmpT .NotEq (mAp2 ixO (mAp2 ixO (mVar 2) (mC (.int 0))) (mC (.int 0))) (mC (.int 0))))) (sRet (mC (.bl false))) sNx
noncomputable def b35_s5 (call : CallF) : SM := sAsg (.nm 3) (mLc (mItV (mAp2 ixO (mVar 0) (mC (.int 1)))) [6, 7] (.tp [.nm 6, .nm 7]) (mYes) (mVar 6))
noncomputable def b35_s6 (call : CallF) : SM := sIf (mCmpT .NotEq (mAp2 ixO (mAp2 ixO (mAp2 ixO (mAp2 ixO (mVar 0) (mC (.int 1))) (mAp2 ixO (mVar 4) (mC (.int 0)))) (mC (.int 1))) (mAp2 ixO (mVar 4) (mC (.int 1)))) (mApN tupO (mCons (mC (.str "call")) (mCons (mAp2 ixO (mVar 3) (mAp2 ixO (mVar 5) (mC (.int 0)))) mNil)))) (sRet (mC (.bl false))) sNx
noncomputable def b35_s7 (call : CallF) : SM := sFor (mItZ false (mCons (mVar 2) (mCons (mSl (mVar 2) (mPart (mC (.int 1))) (mNoP)) mNil))) (.tp [.nm 4, .nm 5]) (b35_s6 call)
noncomputable def b35 (call : CallF) : SM := sSeq (b35_s2 call) (sSeq (b35_s3 call) (sSeq (sAsg (.nm 2) (mAp2 ixO (mVar 1) (mC (.int 1)))) (sSeq (b35_s4 call) (sSeq (b35_s5 call) (sSeq (b35_s7 call) (sRet (mC (.bl true))))))))
abbrev s35 : Stmt := top 54
def d35 : He.DefD := ⟨("_law_due", none), "_law_due", "_law_due", defArgs s35, defBody s35, defScope s35, [], []⟩
noncomputable def p35 : PD := ⟨2, ["_law_program_here", "_law_thing", "_law_places", "_law_names", "_law_one", "_law_other", "_law_name", "_law_rows", "_law_place"], [], [], d35, b35⟩
/-! _law_drawn -/
noncomputable def b36_s1 (call : CallF) : SM := sAsg (.nm 2) (mLc (mItV (mAp2 ixO (mVar 1) (mC (.int 1)))) [9, 6] (.tp [.nm 9, .nm 6]) (mYes) (mVar 9))
noncomputable def b36_s2 (call : CallF) : SM := sAsg (.nm 3) (mAp2 ixO (mApN lstO (mCons (mC (.int 0)) (mCons (mC (.int 0)) (mCons (mC (.int 0)) (mCons (mCall call 27 (mCons (mVar 0) (mCons (mApN lenO (mCons (mVar 2) mNil)) mNil)) []) mNil))))) (mCall call 27 (mCons (mVar 0) (mCons (mC (.int 4)) mNil)) []))
noncomputable def b36_s3 (call : CallF) : SM := sAsg (.nm 7) (mLc (mItN (mCons (mVar 6) mNil)) [8, 10] (.tp [.nm 8, .nm 10]) (mCmpT .Eq (mAp2 ixO (mVar 10) (mC (.int 0))) (mC (.str "call"))) (mVar 8))
noncomputable def b36_s4 (call : CallF) : SM := sAsg (.nm 8) (mAp2 ixO (mVar 7) (mCall call 27 (mCons (mVar 0) (mCons (mApN lenO (mCons (mVar 7) mNil)) mNil)) []))
noncomputable def b36_s5 (call : CallF) : SM := sIf (mAndT (mCmpT .NotEq (mVar 7) (mApN lstO (mNil))) (mCmpT .Gt (mCall call 27 (mCons (mVar 0) (mCons (mC (.int 4)) mNil)) []) (mC (.int 0)))) (b36_s4 call) sNx
noncomputable def b36_s6 (call : CallF) : SM := sAsg (.nm 4) (mAp2 (binS .Add) (mVar 4) (mApN tupO (mCons (mApN tupO (mCons (mVar 3) (mCons (mVar 8) mNil))) mNil)))
noncomputable def b36_s7 (call : CallF) : SM := sAsg (.nm 3) (mMt okFz indexO (mVar 2) (mCons (mAp2 ixO (mAp2 ixO (mVar 6) (mVar 8)) (mC (.int 1))) mNil))
noncomputable def b36_s8 (call : CallF) : SM := sIf (mAndT (mCmpT .Eq (mAp2 ixO (mAp2 ixO (mVar 6) (mVar 8)) (mC (.int 0))) (mC (.str "call"))) (mCmpT .Gt (mCall call 27 (mCons (mVar 0) (mCons (mC (.int 6)) mNil)) []) (mC (.int 0)))) (b36_s7 call) sNx
noncomputable def b36_l9 (call : CallF) : SM := sSeq (sAsg (.nm 6) (mAp2 ixO (mAp2 ixO (mAp2 ixO (mVar 1) (mC (.int 1))) (mVar 3)) (mC (.int 1)))) (sSeq (b36_s3 call) (sSeq (sAsg (.nm 8) (mCall call 27 (mCons (mVar 0) (mCons (mApN lenO (mCons (mVar 6) mNil)) mNil)) [])) (sSeq (b36_s5 call) (sSeq (b36_s6 call) (sSeq (sAsg (.nm 3) (mCall call 27 (mCons (mVar 0) (mCons (mApN lenO (mCons (mVar 2) mNil)) mNil)) [])) (b36_s8 call))))))
noncomputable def b36_s10 (call : CallF) : SM := sFor (mItR (mCons (mAp2 (binS .Add) (mC (.int 1)) (mCall call 27 (mCons (mVar 0) (mCons (mC (.int 4)) mNil)) [])) mNil)) (.nm 5) (b36_l9 call)
noncomputable def b36 (call : CallF) : SM := sSeq (b36_s1 call) (sSeq (b36_s2 call) (sSeq (sAsg (.nm 4) (mApN tupO (mNil))) (sSeq (b36_s10 call) (sRet (mApN tupO (mCons (mC (.str "at")) (mCons (mVar 4) mNil)))))))
abbrev s36 : Stmt := top 55
def d36 : He.DefD := ⟨("_law_drawn", none), "_law_drawn", "_law_drawn", defArgs s36, defBody s36, defScope s36, [], []⟩
noncomputable def p36 : PD := ⟨2, ["_law_pool_here", "_law_program_here", "_law_names", "_law_part", "_law_places", "_law_turn", "_law_rows", "_law_calls", "_law_at", "_law_name", "_law_row_here"], [], [], d36, b36⟩
/-! _law_bent -/
noncomputable def b37_s1 (call : CallF) : SM := sAsg (.nm 2) (mCall call 27 (mCons (mVar 0) (mCons (mApN lenO (mCons (mAp2 ixO (mVar 1) (mC (.int 1))) mNil)) mNil)) [])
noncomputable def b37_s2 (call : CallF) : SM := sAsg (.nm 3) (mApN lstO (mCons (mApN tupO (mCons (mVar 6) (mCons (mAp2 (binS .Add) (mVar 7) (mC (.int 30))) mNil))) (mCons (mApN tupO (mCons (mVar 6) (mCons (mAp1 (unS .USub) (mC (.int 1))) mNil))) (mCons (mApN tupO (mCons (mAp1 (unS .USub) (mC (.int 1))) (mCons (mVar 7) mNil))) (mCons (mApN tupO (mCons (mVar 6) (mCons (mC (.bl true)) mNil))) (mCons (mApN lstO (mCons (mVar 6) (mCons (mVar 7) mNil))) (mCons (mApN tupO (mCons (mVar 6) (mCons (mVar 7) (mCons (mC (.int 0)) mNil)))) (mCons (mApN tupO (mCons (mVar 6) mNil)) mNil))))))))
noncomputable def b37_s3 (call : CallF) : SM := sAsg (.nm 3) (mAp2 (binS .Add) (mVar 3) (mApN lstO (mCons (mC (.non)) (mCons (mApN tupO (mCons (mVar 7) (mCons (mVar 6) mNil))) mNil))))
noncomputable def b37_s4 (call : CallF) : SM := sAsg (.nm 4) (mAp2 (binS .Add) (mAp2 (binS .Add) (mSl (mAp2 ixO (mVar 1) (mC (.int 1))) (mNoP) (mPart (mVar 2))) (mApN tupO (mCons (mAp2 ixO (mVar 3) (mCall call 27 (mCons (mVar 0) (mCons (mC (.int 9)) mNil)) [])) mNil))) (mSl (mAp2 ixO (mVar 1) (mC (.int 1))) (mPart (mAp2 (binS .Add) (mVar 2) (mC (.int 1)))) (mNoP)))
noncomputable def b37_s5 (call : CallF) : SM := sAsg (.nm 5) (mApN newL (mCons (mApN tupO (mCons (mC (.str "at")) (mCons (mVar 4) mNil))) (mCons (mApN tupO (mCons (mC (.str "at")) (mCons (mVar 4) mNil))) (mCons (mApN tupO (mCons (mC (.str "at")) (mCons (mApN tupO (mNil)) mNil))) (mCons (mApN tupO (mCons (mC (.str "at")) (mCons (mApN listO (mCons (mAp2 ixO (mVar 1) (mC (.int 1))) mNil)) mNil))) (mCons (mApN lstO (mCons (mC (.str "at")) (mCons (mAp2 ixO (mVar 1) (mC (.int 1))) mNil))) (mCons (mApN tupO (mCons (mC (.str "at")) mNil)) mNil)))))))
noncomputable def b37_s6 (call : CallF) : SM := sDrop (mApp (mVar 5) (mCons (mApN tupO (mCons (mC (.str "At")) (mCons (mAp2 ixO (mVar 1) (mC (.int 1))) mNil))) mNil))
noncomputable def b37_s7 (call : CallF) : SM := sAsg (.nm 5) (mAp2 (binS .Add) (mFrz (mVar 5)) (mApN lstO (mCons (mApN tupO (mCons (mC (.str "ended")) (mCons (mAp2 ixO (mVar 1) (mC (.int 1))) mNil))) (mCons (mApN tupO (mCons (mC (.str "failed")) mNil)) (mCons (mApN tupO (mCons (mC (.str "ended")) mNil)) (mCons (mApN lstO (mCons (mC (.str "ended")) mNil)) (mCons (mC (.str "ended")) (mCons (mC (.non)) (mCons (mC (.int 5)) (mCons (mApN tupO (mNil)) (mCons (mApN tupO (mCons (mC (.str "at")) (mCons (mAp2 ixO (mVar 1) (mC (.int 1))) (mCons (mC (.int 0)) mNil)))) mNil)))))))))))
noncomputable def b37 (call : CallF) : SM := sSeq (b37_s1 call) (sSeq (sAsg (.tp [.nm 6, .nm 7]) (mAp2 ixO (mAp2 ixO (mVar 1) (mC (.int 1))) (mVar 2))) (sSeq (b37_s2 call) (sSeq (b37_s3 call) (sSeq (b37_s4 call) (sSeq (b37_s5 call) (sSeq (b37_s6 call) (sSeq (b37_s7 call) (sRet (mAp2 ixO (mVar 5) (mCall call 27 (mCons (mVar 0) (mCons (mC (.int 16)) mNil)) []))))))))))
abbrev s37 : Stmt := top 56
def d37 : He.DefD := ⟨("_law_bent", none), "_law_bent", "_law_bent", defArgs s37, defBody s37, defScope s37, [], []⟩
noncomputable def p37 : PD := ⟨2, ["_law_pool_here", "_law_stand", "_law_at", "_law_odd", "_law_places", "_law_some", "_law_part", "_law_row_here"], [], [(297, 16), (299, 1016)], d37, b37⟩
/-! _law_refused -/
noncomputable def b38_t1 (call : CallF) : SM := sDrop (mCall call 25 (mCons (mVar 0) (mCons (mVar 1) mNil)) [])
noncomputable def b38_h2 (call : CallF) (k : Nat) (fs : List (Str × D)) : SM := sRet (mAndV (mIs isa k [.own 2]) (mNotV (mIs isa k [.own 1, .own 3])))
noncomputable def b38 (call : CallF) : SM := sSeq (sTry isa (b38_t1 call) [⟨.own 0, some 2, b38_h2 call⟩]) (sRet (mC (.bl false)))
abbrev s38 : Stmt := top 57
def d38 : He.DefD := ⟨("_law_refused", none), "_law_refused", "_law_refused", defArgs s38, defBody s38, defScope s38, [], []⟩
noncomputable def p38 : PD := ⟨2, ["_law_program_here", "_law_thing", "e"], [], [], d38, b38⟩
/-! _law_as_rows -/
noncomputable def b39_s1 (call : CallF) : SM := sRet (mAp2 (cmpS .Eq) (mApN reprO (mCons (mCall call 25 (mCons (mVar 0) (mCons (mVar 1) mNil)) []) mNil)) (mApN reprO (mCons (mCall call 33 (mCons (mVar 0) (mCons (mVar 1) mNil)) []) mNil)))
noncomputable def b39 (call : CallF) : SM := b39_s1 call
abbrev s39 : Stmt := top 58
def d39 : He.DefD := ⟨("_law_as_rows", none), "_law_as_rows", "_law_as_rows", defArgs s39, defBody s39, defScope s39, [], []⟩
noncomputable def p39 : PD := ⟨2, ["_law_program_here", "_law_stand"], [], [], d39, b39⟩
/-! _law_all_stands -/
noncomputable def b40_s1 (call : CallF) : SM := sRet (mAp2 (cmpS .Eq) (mLc (mItV (mVar 1)) [2] (.nm 2) (mCmpT .IsNot (mCall call 19 (mCons (mVar 0) (mCons (mAp2 ixO (mVar 2) (mC (.int 2))) mNil)) []) (mC (.bl true))) (mVar 2)) (mApN lstO (mNil)))
noncomputable def b40 (call : CallF) : SM := b40_s1 call
abbrev s40 : Stmt := top 59
def d40 : He.DefD := ⟨("_law_all_stands", none), "_law_all_stands", "_law_all_stands", defArgs s40, defBody s40, defScope s40, [], []⟩
noncomputable def p40 : PD := ⟨2, ["_law_program_here", "_law_outs", "_law_out"], [], [], d40, b40⟩
/-! law -/
noncomputable def b41_s1 (call : CallF) : SM := sAsg (.nm 3) (mCall call 31 (mCons (mVar 2) (mCons (mC (.int 3)) (mCons (mC (.int 6)) (mCons (mC (.int 5)) mNil)))) [])
noncomputable def b41_s2 (call : CallF) : SM := sIf (mOrT (mCmpT .NotEq (mApN reprO (mCons (mCall call 19 (mCons (mVar 3) (mCons (mVar 6) mNil)) []) mNil)) (mApN reprO (mCons (mVar 8) mNil))) (mCmpT .Eq (mCall call 38 (mCons (mVar 3) (mCons (mVar 6) mNil)) []) (mVar 8))) (sRet (mC (.bl false))) sNx
noncomputable def b41_s3 (call : CallF) : SM := sIf (mAndT (mTru (mVar 8)) (mNotT (mTru (mCall call 40 (mCons (mVar 3) (mCons (mCall call 25 (mCons (mVar 3) (mCons (mVar 6) mNil)) []) mNil)) [])))) (sRet (mC (.bl false))) sNx
noncomputable def b41_s4 (call : CallF) : SM := sIf (mAndT (mTru (mVar 8)) (mNotT (mTru (mCall call 39 (mCons (mVar 3) (mCons (mVar 6) mNil)) [])))) (sRet (mC (.bl false))) sNx
noncomputable def b41_s5 (call : CallF) : SM := sIf (mCmpT .NotEq (mApN reprO (mCons (mApN lstO (mCons (mVar 3) (mCons (mVar 6) mNil))) mNil)) (mVar 7)) (sRet (mC (.bl false))) sNx
noncomputable def b41_l6 (call : CallF) : SM := sSeq (sAsg (.nm 7) (mApN reprO (mCons (mApN lstO (mCons (mVar 3) (mCons (mVar 6) mNil))) mNil))) (sSeq (sAsg (.nm 8) (mCall call 35 (mCons (mVar 3) (mCons (mVar 6) mNil)) [])) (sSeq (b41_s2 call) (sSeq (b41_s3 call) (sSeq (b41_s4 call) (b41_s5 call)))))
noncomputable def b41_s7 (call : CallF) : SM := sFor (mItV (mApN lstO (mCons (mVar 5) (mCons (mCall call 37 (mCons (mVar 2) (mCons (mVar 5) mNil)) []) mNil)))) (.nm 6) (b41_l6 call)
noncomputable def b41_l8 (call : CallF) : SM := sSeq (sAsg (.nm 5) (mCall call 36 (mCons (mVar 2) (mCons (mVar 3) mNil)) [])) (b41_s7 call)
noncomputable def b41_l9 (call : CallF) : SM := sSeq (sAsg (.nm 2) (mCall call 26 (mCons (mVar 0) (mCons (mVar 1) mNil)) [])) (sSeq (b41_s1 call) (sFor (mItR (mCons (mC (.int 6)) mNil)) (.nm 4) (b41_l8 call)))
noncomputable def b41_s10 (call : CallF) : SM := sFor (mItR (mCons (mApN maxO (mCons (mC (.int 1)) (mCons (mApN minO (mCons (mApN lenO (mCons (mVar 0) mNil)) (mCons (mC (.int 12)) mNil))) mNil))) mNil)) (.nm 1) (b41_l9 call)
noncomputable def b41 (call : CallF) : SM := sSeq (b41_s10 call) (sRet (mC (.bl true)))
abbrev s41 : Stmt := top 60
def d41 : He.DefD := ⟨("law", none), "law", "law", defArgs s41, defBody s41, defScope s41, [], []⟩
noncomputable def p41 : PD := ⟨1, ["_law_script", "_law_k", "_law_pool_here", "_law_program_here", "_law_turn", "_law_stand", "_law_thing", "_law_kept", "_law_due_here"], [], [], d41, b41⟩
noncomputable def fs : List PD := [p0, p1, p2, p3, p4, p5, p6, p7, p8, p9, p10, p11, p12, p13, p14, p15, p16, p17, p18, p19, p20, p21, p22, p23, p24, p25, p26, p27, p28, p29, p30, p31, p32, p33, p34, p35, p36, p37, p38, p39, p40, p41]
def nms : List Str := (["is_whole", "is_line", "is_wish", "contrary", "is_name", "is_row_number", "are_roads", "is_box", "is_row", "wrong_thing", "name_of", "is_part", "look_at_list", "look_at", "part_numbers", "row_at", "is_place", "are_places", "is_stand_of", "is_stand", "moved", "next_stand", "ended_stand", "deed_of"] : List Str) ++ (["exits_of", "exits", "_law_pool", "_law_take", "_law_line", "_law_wish", "_law_row", "_law_program", "_law_moved", "_law_exits", "_law_is_place", "_law_due", "_law_drawn", "_law_bent", "_law_refused", "_law_as_rows", "_law_all_stands", "law"] : List Str)
def gl : List (Str × D) := ([("is_whole", .fn 0), ("is_line", .fn 1), ("is_wish", .fn 2), ("contrary", .fn 3), ("is_name", .fn 4), ("is_row_number", .fn 5), ("are_roads", .fn 6), ("is_box", .fn 7), ("is_row", .fn 8), ("wrong_thing", .fn 9), ("name_of", .fn 10), ("is_part", .fn 11), ("look_at_list", .fn 12), ("look_at", .fn 13), ("part_numbers", .fn 14), ("row_at", .fn 15), ("is_place", .fn 16), ("are_places", .fn 17), ("is_stand_of", .fn 18), ("is_stand", .fn 19), ("moved", .fn 20), ("next_stand", .fn 21), ("ended_stand", .fn 22), ("deed_of", .fn 23)] : List (Str × D)) ++ ([("exits_of", .fn 24), ("exits", .fn 25), ("_law_pool", .fn 26), ("_law_take", .fn 27), ("_law_line", .fn 28), ("_law_wish", .fn 29), ("_law_row", .fn 30), ("_law_program", .fn 31), ("_law_moved", .fn 32), ("_law_exits", .fn 33), ("_law_is_place", .fn 34), ("_law_due", .fn 35), ("_law_drawn", .fn 36), ("_law_bent", .fn 37), ("_law_refused", .fn 38), ("_law_as_rows", .fn 39), ("_law_all_stands", .fn 40), ("law", .fn 41), ("TreeError", .cls 0), ("NoProgram", .cls 1), ("NoStand", .cls 2), ("NoWishes", .cls 3), ("WORDS", .tup [.str "least", .str "above"]), ("LETTERS", .str "abcdefghijklmnopqrstuvwxyz")] : List (Str × D)) ++ ([("MOST_LETTERS", .int 6), ("MOST_BOXES", .int 8), ("MOST_PARTS", .int 6), ("MOST_ROWS", .int 24), ("MOST_ROADS", .int 4), ("ENDED", .tup [.str "ended"]), ("FAILED", .tup [.str "failed"])] : List (Str × D))
def cs : List Str := ["TreeError", "NoProgram", "NoStand", "NoWishes"]
def no : List Str := ["isinstance", "bool", "int", "all", "len", "tuple", "str", "enumerate", "list", "zip", "max", "range", "repr", "min"]
def fn : List He.DefD := [d0, d1, d2, d3, d4, d5, d6, d7, d8, d9, d10, d11, d12, d13, d14, d15, d16, d17, d18, d19, d20, d21, d22, d23, d24, d25, d26, d27, d28, d29, d30, d31, d32, d33, d34, d35, d36, d37, d38, d39, d40, d41, x1]
def tx : Tx := ⟨gl, no, xc, isa, kd⟩
theorem t0 : TrD fs tx p0 := fun call => ⟨60, 30, by kernel_rfl⟩
theorem t1 : TrD fs tx p1 := fun call => ⟨60, 30, by kernel_rfl⟩
theorem t2 : TrD fs tx p2 := fun call => ⟨60, 30, by kernel_rfl⟩
theorem t3 : TrD fs tx p3 := fun call => ⟨60, 30, by kernel_rfl⟩
theorem t4 : TrD fs tx p4 := fun call => ⟨60, 30, by kernel_rfl⟩
theorem t5 : TrD fs tx p5 := fun call => ⟨60, 30, by kernel_rfl⟩
theorem t6 : TrD fs tx p6 := fun call => ⟨60, 30, by kernel_rfl⟩
theorem t7 : TrD fs tx p7 := fun call => ⟨60, 30, by kernel_rfl⟩
theorem t8 : TrD fs tx p8 := fun call => ⟨60, 30, by kernel_rfl⟩
theorem t9 : TrD fs tx p9 := fun call => ⟨60, 30, by kernel_rfl⟩
theorem t10 : TrD fs tx p10 := fun call => ⟨60, 30, by kernel_rfl⟩
theorem t11 : TrD fs tx p11 := fun call => ⟨60, 30, by kernel_rfl⟩
theorem t12 : TrD fs tx p12 := fun call => ⟨60, 30, by kernel_rfl⟩
theorem t13 : TrD fs tx p13 := fun call => ⟨60, 30, by kernel_rfl⟩
theorem t14 : TrD fs tx p14 := fun call => ⟨60, 30, by kernel_rfl⟩
theorem t15 : TrD fs tx p15 := fun call => ⟨60, 30, by kernel_rfl⟩
theorem t16 : TrD fs tx p16 := fun call => ⟨60, 30, by kernel_rfl⟩
theorem t17 : TrD fs tx p17 := fun call => ⟨60, 30, by kernel_rfl⟩
theorem t18 : TrD fs tx p18 := fun call => ⟨60, 30, by kernel_rfl⟩
theorem t19 : TrD fs tx p19 := fun call => ⟨60, 30, by kernel_rfl⟩
theorem t20 : TrD fs tx p20 := fun call => ⟨60, 30, by kernel_rfl⟩
theorem t21 : TrD fs tx p21 := fun call => ⟨60, 30, by kernel_rfl⟩
theorem t22 : TrD fs tx p22 := fun call => ⟨60, 30, by kernel_rfl⟩
theorem t23 : TrD fs tx p23 := fun call => ⟨60, 30, by kernel_rfl⟩
theorem t24 : TrD fs tx p24 := fun call => ⟨60, 30, by kernel_rfl⟩
theorem t25 : TrD fs tx p25 := fun call => ⟨60, 30, by kernel_rfl⟩
theorem t26 : TrD fs tx p26 := fun call => ⟨60, 30, by kernel_rfl⟩
theorem t27 : TrD fs tx p27 := fun call => ⟨60, 30, by kernel_rfl⟩
theorem t28 : TrD fs tx p28 := fun call => ⟨60, 30, by kernel_rfl⟩
theorem t29 : TrD fs tx p29 := fun call => ⟨60, 30, by kernel_rfl⟩
theorem t30 : TrD fs tx p30 := fun call => ⟨60, 30, by kernel_rfl⟩
theorem t31 : TrD fs tx p31 := fun call => ⟨60, 30, by kernel_rfl⟩
theorem t32 : TrD fs tx p32 := fun call => ⟨60, 30, by kernel_rfl⟩
theorem t33 : TrD fs tx p33 := fun call => ⟨60, 30, by kernel_rfl⟩
theorem t34 : TrD fs tx p34 := fun call => ⟨60, 30, by kernel_rfl⟩
theorem t35 : TrD fs tx p35 := fun call => ⟨60, 30, by kernel_rfl⟩
theorem t36 : TrD fs tx p36 := fun call => ⟨60, 30, by kernel_rfl⟩
theorem t37 : TrD fs tx p37 := fun call => ⟨60, 30, by kernel_rfl⟩
theorem t38 : TrD fs tx p38 := fun call => ⟨60, 30, by kernel_rfl⟩
theorem t39 : TrD fs tx p39 := fun call => ⟨60, 30, by kernel_rfl⟩
theorem t40 : TrD fs tx p40 := fun call => ⟨60, 30, by kernel_rfl⟩
theorem t41 : TrD fs tx p41 := fun call => ⟨60, 30, by kernel_rfl⟩
theorem c0 : FnScope p0.N ["thing"] p0.d.scope := ⟨by kernel_rfl, by kernel_rfl, by kernel_rfl, by decide +kernel, by kernel_rfl, by decide +kernel, by decide +kernel⟩
theorem c1 : FnScope p1.N ["many", "thing"] p1.d.scope := ⟨by kernel_rfl, by kernel_rfl, by kernel_rfl, by decide +kernel, by kernel_rfl, by decide +kernel, by decide +kernel⟩
theorem c2 : FnScope p2.N ["many", "thing"] p2.d.scope := ⟨by kernel_rfl, by kernel_rfl, by kernel_rfl, by decide +kernel, by kernel_rfl, by decide +kernel, by decide +kernel⟩
theorem c3 : FnScope p3.N ["wish"] p3.d.scope := ⟨by kernel_rfl, by kernel_rfl, by kernel_rfl, by decide +kernel, by kernel_rfl, by decide +kernel, by decide +kernel⟩
theorem c4 : FnScope p4.N ["thing"] p4.d.scope := ⟨by kernel_rfl, by kernel_rfl, by kernel_rfl, by decide +kernel, by kernel_rfl, by decide +kernel, by decide +kernel⟩
theorem c5 : FnScope p5.N ["many", "thing"] p5.d.scope := ⟨by kernel_rfl, by kernel_rfl, by kernel_rfl, by decide +kernel, by kernel_rfl, by decide +kernel, by decide +kernel⟩
theorem c6 : FnScope p6.N ["many", "thing"] p6.d.scope := ⟨by kernel_rfl, by kernel_rfl, by kernel_rfl, by decide +kernel, by kernel_rfl, by decide +kernel, by decide +kernel⟩
theorem c7 : FnScope p7.N ["boxes", "thing"] p7.d.scope := ⟨by kernel_rfl, by kernel_rfl, by kernel_rfl, by decide +kernel, by kernel_rfl, by decide +kernel, by decide +kernel⟩
theorem c8 : FnScope p8.N ["boxes", "behind", "many", "row"] p8.d.scope := ⟨by kernel_rfl, by kernel_rfl, by kernel_rfl, by decide +kernel, by kernel_rfl, by decide +kernel, by decide +kernel⟩
theorem c9 : FnScope p9.N ["things", "is_good"] p9.d.scope := ⟨by kernel_rfl, by kernel_rfl, by kernel_rfl, by decide +kernel, by kernel_rfl, by decide +kernel, by decide +kernel⟩
theorem c10 : FnScope p10.N ["thing"] p10.d.scope := ⟨by kernel_rfl, by kernel_rfl, by kernel_rfl, by decide +kernel, by kernel_rfl, by decide +kernel, by decide +kernel⟩
theorem c11 : FnScope p11.N ["thing"] p11.d.scope := ⟨by kernel_rfl, by kernel_rfl, by kernel_rfl, by decide +kernel, by kernel_rfl, by decide +kernel, by decide +kernel⟩
theorem c12 : FnScope p12.N ["word", "thing", "most", "is_good"] p12.d.scope := ⟨by kernel_rfl, by kernel_rfl, by kernel_rfl, by decide +kernel, by kernel_rfl, by decide +kernel, by decide +kernel⟩
theorem c13 : FnScope p13.N ["thing"] p13.d.scope := ⟨by kernel_rfl, by kernel_rfl, by kernel_rfl, by decide +kernel, by kernel_rfl, by decide +kernel, by decide +kernel⟩
theorem c14 : FnScope p14.N ["program"] p14.d.scope := ⟨by kernel_rfl, by kernel_rfl, by kernel_rfl, by decide +kernel, by kernel_rfl, by decide +kernel, by decide +kernel⟩
theorem c15 : FnScope p15.N ["program", "place"] p15.d.scope := ⟨by kernel_rfl, by kernel_rfl, by kernel_rfl, by decide +kernel, by kernel_rfl, by decide +kernel, by decide +kernel⟩
theorem c16 : FnScope p16.N ["program", "thing"] p16.d.scope := ⟨by kernel_rfl, by kernel_rfl, by kernel_rfl, by decide +kernel, by kernel_rfl, by decide +kernel, by decide +kernel⟩
theorem c17 : FnScope p17.N ["program", "thing"] p17.d.scope := ⟨by kernel_rfl, by kernel_rfl, by kernel_rfl, by decide +kernel, by kernel_rfl, by decide +kernel, by decide +kernel⟩
theorem c18 : FnScope p18.N ["program", "thing"] p18.d.scope := ⟨by kernel_rfl, by kernel_rfl, by kernel_rfl, by decide +kernel, by kernel_rfl, by decide +kernel, by decide +kernel⟩
theorem c19 : FnScope p19.N ["program", "thing"] p19.d.scope := ⟨by kernel_rfl, by kernel_rfl, by kernel_rfl, by decide +kernel, by kernel_rfl, by decide +kernel, by decide +kernel⟩
theorem c20 : FnScope p20.N ["places", "row"] p20.d.scope := ⟨by kernel_rfl, by kernel_rfl, by kernel_rfl, by decide +kernel, by kernel_rfl, by decide +kernel, by decide +kernel⟩
theorem c21 : FnScope p21.N ["places"] p21.d.scope := ⟨by kernel_rfl, by kernel_rfl, by kernel_rfl, by decide +kernel, by kernel_rfl, by decide +kernel, by decide +kernel⟩
theorem c22 : FnScope p22.N ["places"] p22.d.scope := ⟨by kernel_rfl, by kernel_rfl, by kernel_rfl, by decide +kernel, by kernel_rfl, by decide +kernel, by decide +kernel⟩
theorem c23 : FnScope p23.N ["program", "row"] p23.d.scope := ⟨by kernel_rfl, by kernel_rfl, by kernel_rfl, by decide +kernel, by kernel_rfl, by decide +kernel, by decide +kernel⟩
theorem c24 : FnScope p24.N ["program", "stand"] p24.d.scope := ⟨by kernel_rfl, by kernel_rfl, by kernel_rfl, by decide +kernel, by kernel_rfl, by decide +kernel, by decide +kernel⟩
theorem c25 : FnScope p25.N ["program", "stand"] p25.d.scope := ⟨by kernel_rfl, by kernel_rfl, by kernel_rfl, by decide +kernel, by kernel_rfl, by decide +kernel, by decide +kernel⟩
theorem c26 : FnScope p26.N ["_law_script", "_law_k"] p26.d.scope := ⟨by kernel_rfl, by kernel_rfl, by kernel_rfl, by decide +kernel, by kernel_rfl, by decide +kernel, by decide +kernel⟩
theorem c27 : FnScope p27.N ["_law_pool_here", "_law_many"] p27.d.scope := ⟨by kernel_rfl, by kernel_rfl, by kernel_rfl, by decide +kernel, by kernel_rfl, by decide +kernel, by decide +kernel⟩
theorem c28 : FnScope p28.N ["_law_pool_here", "_law_many"] p28.d.scope := ⟨by kernel_rfl, by kernel_rfl, by kernel_rfl, by decide +kernel, by kernel_rfl, by decide +kernel, by decide +kernel⟩
theorem c29 : FnScope p29.N ["_law_pool_here", "_law_many"] p29.d.scope := ⟨by kernel_rfl, by kernel_rfl, by kernel_rfl, by decide +kernel, by kernel_rfl, by decide +kernel, by decide +kernel⟩
theorem c30 : FnScope p30.N ["_law_pool_here", "_law_boxes", "_law_behind", "_law_many"] p30.d.scope := ⟨by kernel_rfl, by kernel_rfl, by kernel_rfl, by decide +kernel, by kernel_rfl, by decide +kernel, by decide +kernel⟩
theorem c31 : FnScope p31.N ["_law_pool_here", "_law_size", "_law_most", "_law_parts"] p31.d.scope := ⟨by kernel_rfl, by kernel_rfl, by kernel_rfl, by decide +kernel, by kernel_rfl, by decide +kernel, by decide +kernel⟩
theorem c32 : FnScope p32.N ["_law_places", "_law_row_here"] p32.d.scope := ⟨by kernel_rfl, by kernel_rfl, by kernel_rfl, by decide +kernel, by kernel_rfl, by decide +kernel, by decide +kernel⟩
theorem c33 : FnScope p33.N ["_law_program_here", "_law_stand"] p33.d.scope := ⟨by kernel_rfl, by kernel_rfl, by kernel_rfl, by decide +kernel, by kernel_rfl, by decide +kernel, by decide +kernel⟩
theorem c34 : FnScope p34.N ["_law_program_here", "_law_thing"] p34.d.scope := ⟨by kernel_rfl, by kernel_rfl, by kernel_rfl, by decide +kernel, by kernel_rfl, by decide +kernel, by decide +kernel⟩
theorem c35 : FnScope p35.N ["_law_program_here", "_law_thing"] p35.d.scope := ⟨by kernel_rfl, by kernel_rfl, by kernel_rfl, by decide +kernel, by kernel_rfl, by decide +kernel, by decide +kernel⟩
theorem c36 : FnScope p36.N ["_law_pool_here", "_law_program_here"] p36.d.scope := ⟨by kernel_rfl, by kernel_rfl, by kernel_rfl, by decide +kernel, by kernel_rfl, by decide +kernel, by decide +kernel⟩
theorem c37 : FnScope p37.N ["_law_pool_here", "_law_stand"] p37.d.scope := ⟨by kernel_rfl, by kernel_rfl, by kernel_rfl, by decide +kernel, by kernel_rfl, by decide +kernel, by decide +kernel⟩
theorem c38 : FnScope p38.N ["_law_program_here", "_law_thing"] p38.d.scope := ⟨by kernel_rfl, by kernel_rfl, by kernel_rfl, by decide +kernel, by kernel_rfl, by decide +kernel, by decide +kernel⟩
theorem c39 : FnScope p39.N ["_law_program_here", "_law_stand"] p39.d.scope := ⟨by kernel_rfl, by kernel_rfl, by kernel_rfl, by decide +kernel, by kernel_rfl, by decide +kernel, by decide +kernel⟩
theorem c40 : FnScope p40.N ["_law_program_here", "_law_outs"] p40.d.scope := ⟨by kernel_rfl, by kernel_rfl, by kernel_rfl, by decide +kernel, by kernel_rfl, by decide +kernel, by decide +kernel⟩
theorem c41 : FnScope p41.N ["_law_script"] p41.d.scope := ⟨by kernel_rfl, by kernel_rfl, by kernel_rfl, by decide +kernel, by kernel_rfl, by decide +kernel, by decide +kernel⟩
theorem e0 (n : Nat) (ds : List D) (m : Sto) : callD fs (n + 1) 0 ds m = fin (b0 (callD fs n) (startE p0.N.length ds) m) := rfl
theorem e1 (n : Nat) (ds : List D) (m : Sto) : callD fs (n + 1) 1 ds m = fin (b1 (callD fs n) (startE p1.N.length ds) m) := rfl
theorem e2 (n : Nat) (ds : List D) (m : Sto) : callD fs (n + 1) 2 ds m = fin (b2 (callD fs n) (startE p2.N.length ds) m) := rfl
theorem e3 (n : Nat) (ds : List D) (m : Sto) : callD fs (n + 1) 3 ds m = fin (b3 (callD fs n) (startE p3.N.length ds) m) := rfl
theorem e4 (n : Nat) (ds : List D) (m : Sto) : callD fs (n + 1) 4 ds m = fin (b4 (callD fs n) (startE p4.N.length ds) m) := rfl
theorem e5 (n : Nat) (ds : List D) (m : Sto) : callD fs (n + 1) 5 ds m = fin (b5 (callD fs n) (startE p5.N.length ds) m) := rfl
theorem e6 (n : Nat) (ds : List D) (m : Sto) : callD fs (n + 1) 6 ds m = fin (b6 (callD fs n) (startE p6.N.length ds) m) := rfl
theorem e7 (n : Nat) (ds : List D) (m : Sto) : callD fs (n + 1) 7 ds m = fin (b7 (callD fs n) (startE p7.N.length ds) m) := rfl
theorem e8 (n : Nat) (ds : List D) (m : Sto) : callD fs (n + 1) 8 ds m = fin (b8 (callD fs n) (startE p8.N.length ds) m) := rfl
theorem e9 (n : Nat) (ds : List D) (m : Sto) : callD fs (n + 1) 9 ds m = fin (b9 (callD fs n) (startE p9.N.length ds) m) := rfl
theorem e10 (n : Nat) (ds : List D) (m : Sto) : callD fs (n + 1) 10 ds m = fin (b10 (callD fs n) (startE p10.N.length ds) m) := rfl
theorem e11 (n : Nat) (ds : List D) (m : Sto) : callD fs (n + 1) 11 ds m = fin (b11 (callD fs n) (startE p11.N.length ds) m) := rfl
theorem e12 (n : Nat) (ds : List D) (m : Sto) : callD fs (n + 1) 12 ds m = fin (b12 (callD fs n) (startE p12.N.length ds) m) := rfl
theorem e13 (n : Nat) (ds : List D) (m : Sto) : callD fs (n + 1) 13 ds m = fin (b13 (callD fs n) (startE p13.N.length ds) m) := rfl
theorem e14 (n : Nat) (ds : List D) (m : Sto) : callD fs (n + 1) 14 ds m = fin (b14 (callD fs n) (startE p14.N.length ds) m) := rfl
theorem e15 (n : Nat) (ds : List D) (m : Sto) : callD fs (n + 1) 15 ds m = fin (b15 (callD fs n) (startE p15.N.length ds) m) := rfl
theorem e16 (n : Nat) (ds : List D) (m : Sto) : callD fs (n + 1) 16 ds m = fin (b16 (callD fs n) (startE p16.N.length ds) m) := rfl
theorem e17 (n : Nat) (ds : List D) (m : Sto) : callD fs (n + 1) 17 ds m = fin (b17 (callD fs n) (startE p17.N.length ds) m) := rfl
theorem e18 (n : Nat) (ds : List D) (m : Sto) : callD fs (n + 1) 18 ds m = fin (b18 (callD fs n) (startE p18.N.length ds) m) := rfl
theorem e19 (n : Nat) (ds : List D) (m : Sto) : callD fs (n + 1) 19 ds m = fin (b19 (callD fs n) (startE p19.N.length ds) m) := rfl
theorem e20 (n : Nat) (ds : List D) (m : Sto) : callD fs (n + 1) 20 ds m = fin (b20 (callD fs n) (startE p20.N.length ds) m) := rfl
theorem e21 (n : Nat) (ds : List D) (m : Sto) : callD fs (n + 1) 21 ds m = fin (b21 (callD fs n) (startE p21.N.length ds) m) := rfl
theorem e22 (n : Nat) (ds : List D) (m : Sto) : callD fs (n + 1) 22 ds m = fin (b22 (callD fs n) (startE p22.N.length ds) m) := rfl
theorem e23 (n : Nat) (ds : List D) (m : Sto) : callD fs (n + 1) 23 ds m = fin (b23 (callD fs n) (startE p23.N.length ds) m) := rfl
theorem e24 (n : Nat) (ds : List D) (m : Sto) : callD fs (n + 1) 24 ds m = fin (b24 (callD fs n) (startE p24.N.length ds) m) := rfl
theorem e25 (n : Nat) (ds : List D) (m : Sto) : callD fs (n + 1) 25 ds m = fin (b25 (callD fs n) (startE p25.N.length ds) m) := rfl
theorem e26 (n : Nat) (ds : List D) (m : Sto) : callD fs (n + 1) 26 ds m = fin (b26 (callD fs n) (startE p26.N.length ds) m) := rfl
theorem e27 (n : Nat) (ds : List D) (m : Sto) : callD fs (n + 1) 27 ds m = fin (b27 (callD fs n) (startE p27.N.length ds) m) := rfl
theorem e28 (n : Nat) (ds : List D) (m : Sto) : callD fs (n + 1) 28 ds m = fin (b28 (callD fs n) (startE p28.N.length ds) m) := rfl
theorem e29 (n : Nat) (ds : List D) (m : Sto) : callD fs (n + 1) 29 ds m = fin (b29 (callD fs n) (startE p29.N.length ds) m) := rfl
theorem e30 (n : Nat) (ds : List D) (m : Sto) : callD fs (n + 1) 30 ds m = fin (b30 (callD fs n) (startE p30.N.length ds) m) := rfl
theorem e31 (n : Nat) (ds : List D) (m : Sto) : callD fs (n + 1) 31 ds m = fin (b31 (callD fs n) (startE p31.N.length ds) m) := rfl
theorem e32 (n : Nat) (ds : List D) (m : Sto) : callD fs (n + 1) 32 ds m = fin (b32 (callD fs n) (startE p32.N.length ds) m) := rfl
theorem e33 (n : Nat) (ds : List D) (m : Sto) : callD fs (n + 1) 33 ds m = fin (b33 (callD fs n) (startE p33.N.length ds) m) := rfl
theorem e34 (n : Nat) (ds : List D) (m : Sto) : callD fs (n + 1) 34 ds m = fin (b34 (callD fs n) (startE p34.N.length ds) m) := rfl
theorem e35 (n : Nat) (ds : List D) (m : Sto) : callD fs (n + 1) 35 ds m = fin (b35 (callD fs n) (startE p35.N.length ds) m) := rfl
theorem e36 (n : Nat) (ds : List D) (m : Sto) : callD fs (n + 1) 36 ds m = fin (b36 (callD fs n) (startE p36.N.length ds) m) := rfl
theorem e37 (n : Nat) (ds : List D) (m : Sto) : callD fs (n + 1) 37 ds m = fin (b37 (callD fs n) (startE p37.N.length ds) m) := rfl
theorem e38 (n : Nat) (ds : List D) (m : Sto) : callD fs (n + 1) 38 ds m = fin (b38 (callD fs n) (startE p38.N.length ds) m) := rfl
theorem e39 (n : Nat) (ds : List D) (m : Sto) : callD fs (n + 1) 39 ds m = fin (b39 (callD fs n) (startE p39.N.length ds) m) := rfl
theorem e40 (n : Nat) (ds : List D) (m : Sto) : callD fs (n + 1) 40 ds m = fin (b40 (callD fs n) (startE p40.N.length ds) m) := rfl
theorem e41 (n : Nat) (ds : List D) (m : Sto) : callD fs (n + 1) 41 ds m = fin (b41 (callD fs n) (startE p41.N.length ds) m) := rfl
theorem ht : ∀ (i : Nat) (p : PD), fs[i]? = some p → TrD fs ⟨gl, no, xcOf xi, isaOf al xm, kd⟩ p
  | 0, _, h => by cases h; exact t0
  | 1, _, h => by cases h; exact t1
  | 2, _, h => by cases h; exact t2
  | 3, _, h => by cases h; exact t3
  | 4, _, h => by cases h; exact t4
  | 5, _, h => by cases h; exact t5
  | 6, _, h => by cases h; exact t6
  | 7, _, h => by cases h; exact t7
  | 8, _, h => by cases h; exact t8
  | 9, _, h => by cases h; exact t9
  | 10, _, h => by cases h; exact t10
  | 11, _, h => by cases h; exact t11
  | 12, _, h => by cases h; exact t12
  | 13, _, h => by cases h; exact t13
  | 14, _, h => by cases h; exact t14
  | 15, _, h => by cases h; exact t15
  | 16, _, h => by cases h; exact t16
  | 17, _, h => by cases h; exact t17
  | 18, _, h => by cases h; exact t18
  | 19, _, h => by cases h; exact t19
  | 20, _, h => by cases h; exact t20
  | 21, _, h => by cases h; exact t21
  | 22, _, h => by cases h; exact t22
  | 23, _, h => by cases h; exact t23
  | 24, _, h => by cases h; exact t24
  | 25, _, h => by cases h; exact t25
  | 26, _, h => by cases h; exact t26
  | 27, _, h => by cases h; exact t27
  | 28, _, h => by cases h; exact t28
  | 29, _, h => by cases h; exact t29
  | 30, _, h => by cases h; exact t30
  | 31, _, h => by cases h; exact t31
  | 32, _, h => by cases h; exact t32
  | 33, _, h => by cases h; exact t33
  | 34, _, h => by cases h; exact t34
  | 35, _, h => by cases h; exact t35
  | 36, _, h => by cases h; exact t36
  | 37, _, h => by cases h; exact t37
  | 38, _, h => by cases h; exact t38
  | 39, _, h => by cases h; exact t39
  | 40, _, h => by cases h; exact t40
  | 41, _, h => by cases h; exact t41
  | _ + 42, _, h => by cases h
theorem hd (K : PySem.W.Frag) (c : TellsX (chkX nms cs gl no xi al xm kd) fn K) : ∀ (i : Nat) (p : PD), fs[i]? = some p → ∃ f, (gOf nms cs K).fa i = some f ∧ DefOk (gOf nms cs K) K p f
  | 0, _, h => by
    cases h; obtain ⟨fd, F⟩ := c.def_ (i := 0) (z := d0) rfl
    exact ⟨_, rfl, defOk0 (p := p0) F rfl _ c0 rfl fun _ _ _ _ _ _ us hl => match us, hl with | [_], _ => by kernel_rfl⟩
  | 1, _, h => by
    cases h; obtain ⟨fd, F⟩ := c.def_ (i := 1) (z := d1) rfl
    exact ⟨_, rfl, defOk0 (p := p1) F rfl _ c1 rfl fun _ _ _ _ _ _ us hl => match us, hl with | [_, _], _ => by kernel_rfl⟩
  | 2, _, h => by
    cases h; obtain ⟨fd, F⟩ := c.def_ (i := 2) (z := d2) rfl
    exact ⟨_, rfl, defOk0 (p := p2) F rfl _ c2 rfl fun _ _ _ _ _ _ us hl => match us, hl with | [_, _], _ => by kernel_rfl⟩
  | 3, _, h => by
    cases h; obtain ⟨fd, F⟩ := c.def_ (i := 3) (z := d3) rfl
    exact ⟨_, rfl, defOk0 (p := p3) F rfl _ c3 rfl fun _ _ _ _ _ _ us hl => match us, hl with | [_], _ => by kernel_rfl⟩
  | 4, _, h => by
    cases h; obtain ⟨fd, F⟩ := c.def_ (i := 4) (z := d4) rfl
    exact ⟨_, rfl, defOk0 (p := p4) F rfl _ c4 rfl fun _ _ _ _ _ _ us hl => match us, hl with | [_], _ => by kernel_rfl⟩
  | 5, _, h => by
    cases h; obtain ⟨fd, F⟩ := c.def_ (i := 5) (z := d5) rfl
    exact ⟨_, rfl, defOk0 (p := p5) F rfl _ c5 rfl fun _ _ _ _ _ _ us hl => match us, hl with | [_, _], _ => by kernel_rfl⟩
  | 6, _, h => by
    cases h; obtain ⟨fd, F⟩ := c.def_ (i := 6) (z := d6) rfl
    exact ⟨_, rfl, defOk0 (p := p6) F rfl _ c6 rfl fun _ _ _ _ _ _ us hl => match us, hl with | [_, _], _ => by kernel_rfl⟩
  | 7, _, h => by
    cases h; obtain ⟨fd, F⟩ := c.def_ (i := 7) (z := d7) rfl
    exact ⟨_, rfl, defOk0 (p := p7) F rfl _ c7 rfl fun _ _ _ _ _ _ us hl => match us, hl with | [_, _], _ => by kernel_rfl⟩
  | 8, _, h => by
    cases h; obtain ⟨fd, F⟩ := c.def_ (i := 8) (z := d8) rfl
    exact ⟨_, rfl, defOk0 (p := p8) F rfl _ c8 rfl fun _ _ _ _ _ _ us hl => match us, hl with | [_, _, _, _], _ => by kernel_rfl⟩
  | 9, _, h => by
    cases h; obtain ⟨fd, F⟩ := c.def_ (i := 9) (z := d9) rfl
    exact ⟨_, rfl, defOk0 (p := p9) F rfl _ c9 rfl fun _ _ _ _ _ _ us hl => match us, hl with | [_, _], _ => by kernel_rfl⟩
  | 10, _, h => by
    cases h; obtain ⟨fd, F⟩ := c.def_ (i := 10) (z := d10) rfl
    exact ⟨_, rfl, defOk0 (p := p10) F rfl _ c10 rfl fun _ _ _ _ _ _ us hl => match us, hl with | [_], _ => by kernel_rfl⟩
  | 11, _, h => by
    cases h; obtain ⟨fd, F⟩ := c.def_ (i := 11) (z := d11) rfl
    exact ⟨_, rfl, defOk0 (p := p11) F rfl _ c11 rfl fun _ _ _ _ _ _ us hl => match us, hl with | [_], _ => by kernel_rfl⟩
  | 12, _, h => by
    cases h; obtain ⟨fd, F⟩ := c.def_ (i := 12) (z := d12) rfl
    exact ⟨_, rfl, defOk0 (p := p12) F rfl _ c12 rfl fun _ _ _ _ _ _ us hl => match us, hl with | [_, _, _, _], _ => by kernel_rfl⟩
  | 13, _, h => by
    cases h; obtain ⟨fd, F⟩ := c.def_ (i := 13) (z := d13) rfl
    exact ⟨_, rfl, defOk0 (p := p13) F rfl _ c13 rfl fun _ _ _ _ _ _ us hl => match us, hl with | [_], _ => by kernel_rfl⟩
  | 14, _, h => by
    cases h; obtain ⟨fd, F⟩ := c.def_ (i := 14) (z := d14) rfl
    exact ⟨_, rfl, defOk0 (p := p14) F rfl _ c14 rfl fun _ _ _ _ _ _ us hl => match us, hl with | [_], _ => by kernel_rfl⟩
  | 15, _, h => by
    cases h; obtain ⟨fd, F⟩ := c.def_ (i := 15) (z := d15) rfl
    exact ⟨_, rfl, defOk0 (p := p15) F rfl _ c15 rfl fun _ _ _ _ _ _ us hl => match us, hl with | [_, _], _ => by kernel_rfl⟩
  | 16, _, h => by
    cases h; obtain ⟨fd, F⟩ := c.def_ (i := 16) (z := d16) rfl
    exact ⟨_, rfl, defOk0 (p := p16) F rfl _ c16 rfl fun _ _ _ _ _ _ us hl => match us, hl with | [_, _], _ => by kernel_rfl⟩
  | 17, _, h => by
    cases h; obtain ⟨fd, F⟩ := c.def_ (i := 17) (z := d17) rfl
    exact ⟨_, rfl, defOk0 (p := p17) F rfl _ c17 rfl fun _ _ _ _ _ _ us hl => match us, hl with | [_, _], _ => by kernel_rfl⟩
  | 18, _, h => by
    cases h; obtain ⟨fd, F⟩ := c.def_ (i := 18) (z := d18) rfl
    exact ⟨_, rfl, defOk0 (p := p18) F rfl _ c18 rfl fun _ _ _ _ _ _ us hl => match us, hl with | [_, _], _ => by kernel_rfl⟩
  | 19, _, h => by
    cases h; obtain ⟨fd, F⟩ := c.def_ (i := 19) (z := d19) rfl
    exact ⟨_, rfl, defOk0 (p := p19) F rfl _ c19 rfl fun _ _ _ _ _ _ us hl => match us, hl with | [_, _], _ => by kernel_rfl⟩
  | 20, _, h => by
    cases h; obtain ⟨fd, F⟩ := c.def_ (i := 20) (z := d20) rfl
    exact ⟨_, rfl, defOk0 (p := p20) F rfl _ c20 rfl fun _ _ _ _ _ _ us hl => match us, hl with | [_, _], _ => by kernel_rfl⟩
  | 21, _, h => by
    cases h; obtain ⟨fd, F⟩ := c.def_ (i := 21) (z := d21) rfl
    exact ⟨_, rfl, defOk0 (p := p21) F rfl _ c21 rfl fun _ _ _ _ _ _ us hl => match us, hl with | [_], _ => by kernel_rfl⟩
  | 22, _, h => by
    cases h; obtain ⟨fd, F⟩ := c.def_ (i := 22) (z := d22) rfl
    exact ⟨_, rfl, defOk0 (p := p22) F rfl _ c22 rfl fun _ _ _ _ _ _ us hl => match us, hl with | [_], _ => by kernel_rfl⟩
  | 23, _, h => by
    cases h; obtain ⟨fd, F⟩ := c.def_ (i := 23) (z := d23) rfl
    exact ⟨_, rfl, defOk0 (p := p23) F rfl _ c23 rfl fun _ _ _ _ _ _ us hl => match us, hl with | [_, _], _ => by kernel_rfl⟩
  | 24, _, h => by
    cases h; obtain ⟨fd, F⟩ := c.def_ (i := 24) (z := d24) rfl
    exact ⟨_, rfl, defOk0 (p := p24) F rfl _ c24 rfl fun _ _ _ _ _ _ us hl => match us, hl with | [_, _], _ => by kernel_rfl⟩
  | 25, _, h => by
    cases h; obtain ⟨fd, F⟩ := c.def_ (i := 25) (z := d25) rfl
    exact ⟨_, rfl, defOk0 (p := p25) F rfl _ c25 rfl fun _ _ _ _ _ _ us hl => match us, hl with | [_, _], _ => by kernel_rfl⟩
  | 26, _, h => by
    cases h; obtain ⟨fd, F⟩ := c.def_ (i := 26) (z := d26) rfl
    exact ⟨_, rfl, defOk0 (p := p26) F rfl _ c26 rfl fun _ _ _ _ _ _ us hl => match us, hl with | [_, _], _ => by kernel_rfl⟩
  | 27, _, h => by
    cases h; obtain ⟨fd, F⟩ := c.def_ (i := 27) (z := d27) rfl
    exact ⟨_, rfl, defOk0 (p := p27) F rfl _ c27 rfl fun _ _ _ _ _ _ us hl => match us, hl with | [_, _], _ => by kernel_rfl⟩
  | 28, _, h => by
    cases h; obtain ⟨fd, F⟩ := c.def_ (i := 28) (z := d28) rfl
    exact ⟨_, rfl, defOk0 (p := p28) F rfl _ c28 rfl fun _ _ _ _ _ _ us hl => match us, hl with | [_, _], _ => by kernel_rfl⟩
  | 29, _, h => by
    cases h; obtain ⟨fd, F⟩ := c.def_ (i := 29) (z := d29) rfl
    exact ⟨_, rfl, defOk0 (p := p29) F rfl _ c29 rfl fun _ _ _ _ _ _ us hl => match us, hl with | [_, _], _ => by kernel_rfl⟩
  | 30, _, h => by
    cases h; obtain ⟨fd, F⟩ := c.def_ (i := 30) (z := d30) rfl
    exact ⟨_, rfl, defOk0 (p := p30) F rfl _ c30 rfl fun _ _ _ _ _ _ us hl => match us, hl with | [_, _, _, _], _ => by kernel_rfl⟩
  | 31, _, h => by
    cases h; obtain ⟨fd, F⟩ := c.def_ (i := 31) (z := d31) rfl
    exact ⟨_, rfl, defOk0 (p := p31) F rfl _ c31 rfl fun _ _ _ _ _ _ us hl => match us, hl with | [_, _, _, _], _ => by kernel_rfl⟩
  | 32, _, h => by
    cases h; obtain ⟨fd, F⟩ := c.def_ (i := 32) (z := d32) rfl
    exact ⟨_, rfl, defOk0 (p := p32) F rfl _ c32 rfl fun _ _ _ _ _ _ us hl => match us, hl with | [_, _], _ => by kernel_rfl⟩
  | 33, _, h => by
    cases h; obtain ⟨fd, F⟩ := c.def_ (i := 33) (z := d33) rfl
    exact ⟨_, rfl, defOk0 (p := p33) F rfl _ c33 rfl fun _ _ _ _ _ _ us hl => match us, hl with | [_, _], _ => by kernel_rfl⟩
  | 34, _, h => by
    cases h; obtain ⟨fd, F⟩ := c.def_ (i := 34) (z := d34) rfl
    exact ⟨_, rfl, defOk0 (p := p34) F rfl _ c34 rfl fun _ _ _ _ _ _ us hl => match us, hl with | [_, _], _ => by kernel_rfl⟩
  | 35, _, h => by
    cases h; obtain ⟨fd, F⟩ := c.def_ (i := 35) (z := d35) rfl
    exact ⟨_, rfl, defOk0 (p := p35) F rfl _ c35 rfl fun _ _ _ _ _ _ us hl => match us, hl with | [_, _], _ => by kernel_rfl⟩
  | 36, _, h => by
    cases h; obtain ⟨fd, F⟩ := c.def_ (i := 36) (z := d36) rfl
    exact ⟨_, rfl, defOk0 (p := p36) F rfl _ c36 rfl fun _ _ _ _ _ _ us hl => match us, hl with | [_, _], _ => by kernel_rfl⟩
  | 37, _, h => by
    cases h; obtain ⟨fd, F⟩ := c.def_ (i := 37) (z := d37) rfl
    exact ⟨_, rfl, defOk0 (p := p37) F rfl _ c37 rfl fun _ _ _ _ _ _ us hl => match us, hl with | [_, _], _ => by kernel_rfl⟩
  | 38, _, h => by
    cases h; obtain ⟨fd, F⟩ := c.def_ (i := 38) (z := d38) rfl
    exact ⟨_, rfl, defOk0 (p := p38) F rfl _ c38 rfl fun _ _ _ _ _ _ us hl => match us, hl with | [_, _], _ => by kernel_rfl⟩
  | 39, _, h => by
    cases h; obtain ⟨fd, F⟩ := c.def_ (i := 39) (z := d39) rfl
    exact ⟨_, rfl, defOk0 (p := p39) F rfl _ c39 rfl fun _ _ _ _ _ _ us hl => match us, hl with | [_, _], _ => by kernel_rfl⟩
  | 40, _, h => by
    cases h; obtain ⟨fd, F⟩ := c.def_ (i := 40) (z := d40) rfl
    exact ⟨_, rfl, defOk0 (p := p40) F rfl _ c40 rfl fun _ _ _ _ _ _ us hl => match us, hl with | [_, _], _ => by kernel_rfl⟩
  | 41, _, h => by
    cases h; obtain ⟨fd, F⟩ := c.def_ (i := 41) (z := d41) rfl
    exact ⟨_, rfl, defOk0 (p := p41) F rfl _ c41 rfl fun _ _ _ _ _ _ us hl => match us, hl with | [_], _ => by kernel_rfl⟩
  | _ + 42, _, h => by cases h
theorem z1 : XsOk fn gl no ⟨1, .own ["part", "number", "row"], 0, "TreeError", some 0, x1⟩ "part" ["number", "row"] := ⟨⟨42, rfl⟩, rfl, rfl, rfl, ⟨by kernel_rfl, by kernel_rfl, by kernel_rfl, by decide +kernel, by kernel_rfl, by decide +kernel, by decide +kernel⟩, by kernel_rfl, by decide +kernel, by decide +kernel, by kernel_rfl, by kernel_rfl, by kernel_rfl, by decide, fun _ _ _ _ _ _ us hl => match us, hl with | [_, _, _, _], _ => by kernel_rfl⟩
theorem hs : ∀ x ∈ xi, match x.c with
      | .plain => True
      | .own fs => ∃ f r, fs = f :: r ∧ XsOk fn gl no x f r := by
  intro x hx
  simp only [xi, List.mem_cons, List.not_mem_nil, or_false] at hx
  rcases hx with rfl | rfl | rfl | rfl
  · exact True.intro
  · exact ⟨_, _, rfl, z1⟩
  · exact True.intro
  · exact True.intro
def loose : List Str := (["TreeError", "NoProgram", "NoStand", "NoWishes", "is_whole", "is_line", "is_wish", "contrary", "is_name", "is_row_number", "are_roads", "is_box", "is_row", "wrong_thing", "name_of", "is_part", "look_at_list", "look_at", "part_numbers", "row_at", "is_place", "are_places", "is_stand_of", "is_stand"] : List Str) ++ (["moved", "next_stand", "ended_stand", "deed_of", "exits_of", "exits", "_law_pool", "_law_take", "_law_line", "_law_wish", "_law_row", "_law_program", "_law_moved", "_law_exits", "_law_is_place", "_law_due", "_law_drawn", "_law_bent", "_law_refused", "_law_as_rows", "_law_all_stands", "WORDS", "LETTERS", "MOST_LETTERS"] : List Str) ++ (["MOST_BOXES", "MOST_PARTS", "MOST_ROWS", "MOST_ROADS", "ENDED", "FAILED"] : List Str)
abbrev R : PySem.W.OpenRow := PySem.W.OpenLaw.row PySem.Challenge.rw_coveredtree_k17_stands_looked_at
abbrev hk : PySem.W.Hook := hookX 6 (chkX nms cs gl no xi al xm kd) fn kd
def ob (s : PySem.W.SharedT) : He.AlD × TabO := obsXT 6 (chkX nms cs gl no xi al xm kd) fn kd (HandSHeadRun.getT s)
theorem ob_eq (s : PySem.W.SharedT) : ob s = hk.obs s.abs := obsXG_eq (HandSHeadRun.getT_eq s)
theorem run (w : World) : HandSHeadRun.RunEq R (PySem.W.view R.prog [60]) hk ob 4000 loose w := by
  intro os
  kernel_rfl
end K17

set_option Elab.async false
set_option linter.all false
set_option maxRecDepth 100000
set_option maxHeartbeats 8000000
namespace K17
open PySem PySem.Spec L2 DI
/-! whole numbers, greatest common divisors, lowest terms -/
theorem whole_ (n : Nat) (d : D) (h : isFz d = true) (m : Sto) : callD fs (n + 1) 0 [d] m = .ok (.bl (isIntD d)) m := by
  rw [e0]
  have N : p0.N.length = 1 := rfl
  cases d with
  | int i => simp [b0, b0_s1, startE, N, isi_int _ _ h, isi_bool _ _ h, isIntD, isBlD]
  | bl b => simp [b0, b0_s1, startE, N, isi_int _ _ h, isi_bool _ _ h, isIntD, isBlD]
  | non => simp [b0, b0_s1, startE, N, isi_int _ _ h, isIntD, isBlD]
  | str x => simp [b0, b0_s1, startE, N, isi_int _ _ h, isIntD, isBlD]
  | tup x => simp [b0, b0_s1, startE, N, isi_int _ _ h, isIntD, isBlD]
  | lst x => simp [b0, b0_s1, startE, N, isi_int _ _ h, isIntD, isBlD]
  | dct x => simp [b0, b0_s1, startE, N, isi_int _ _ h, isIntD, isBlD]
  | _ => cases h

/-! what programs are: lines, wishes, names, rows -/
theorem isline_ (n : Nat) (s : Int) (d : D) (h : Nc d) (m : Sto) : callD fs (n + 2) 1 [.int s, d] m = .ok (.bl (lineB s d)) m := by
  rw [e1]
  have N : p1.N.length = 3 := rfl
  have hz := h.fz
  cases d with
  | tup xs =>
    obtain ⟨h1, h2⟩ := h.tup
    have lc : lcL (Live ⟨xs, none⟩) (.nm 2) mYes (mCall (callD fs (n + 1)) 0 (mCons (mVar 2) mNil) []) [some (D.int s), some (D.tup xs), none] xs [] m = .ok (.lst (xs.map fun d => .bl (isIntD d))) m :=
      lc_map (fun d => .bl (isIntD d)) (fun d hd => ⟨_, rfl, by simp [whole_ n d (h1 d hd).fz m]⟩) (by omega)
    by_cases hl : (xs.length : Int) = s + 1
    · simp [b1, b1_s1, startE, N, isi_tup _ _ hz, isTupD, hl, lc, all_D, lineB]
    · simp [b1, b1_s1, startE, N, isi_tup _ _ hz, isTupD, hl, lineB]
  | _ => simp [b1, b1_s1, startE, N, isi_tup _ _ hz, isTupD, lineB]
theorem iswish_ (n : Nat) (s : Int) (d : D) (h : Nc d) (m : Sto) : callD fs (n + 3) 2 [.int s, d] m = .ok (.bl (wishB s d)) m := by
  rw [e2]
  have N : p2.N.length = 2 := rfl
  have hz := h.fz
  cases d with
  | tup xs =>
    obtain ⟨h1, h2⟩ := h.tup
    match xs, h1 with
    | [], _ => simp [b2, b2_s1, startE, N, isi_tup _ _ hz, isTupD, wishB]
    | [a], _ => simp [b2, b2_s1, startE, N, isi_tup _ _ hz, isTupD, wishB]
    | [a, b], h1 =>
      have ha := (h1 a (by simp)).fz
      have hb := isline_ n s b (h1 b (by simp)) m
      cases a with
      | str w =>
        simp [b2, b2_s1, b2_s2, startE, N, isi_tup _ _ hz, isTupD, isi_str _ _ ha, isStrD, wishB, inW_t, hb]
        cases inW w <;> simp
      | _ => simp [b2, b2_s1, startE, N, isi_tup _ _ hz, isTupD, isi_str _ _ ha, isStrD, wishB]
    | a :: b :: c :: r, _ =>
      have : ¬ ((r.length : Int) + 1 + 1 + 1 = 2) := by omega
      simp [b2, b2_s1, startE, N, isi_tup _ _ hz, isTupD, wishB, this]
  | _ => simp [b2, b2_s1, startE, N, isi_tup _ _ hz, isTupD, wishB]
theorem isname_ (n : Nat) (d : D) (h : Nc d) (m : Sto) : callD fs (n + 1) 4 [d] m = .ok (.bl (nameB d)) m := by
  rw [e4]
  have N : p4.N.length = 2 := rfl
  have hz := h.fz
  cases d with
  | str x =>
    have hl := h.str
    obtain ⟨l, rfl⟩ : ∃ l, x = SL l := ⟨_, sl_eta x⟩
    have hl : l.length ≤ 900000 := by simpa [SL] using hl
    have L := lenO_sl (l := l) (by omega) m
    have lc : lcL (Live ⟨l.map fun c => D.str (SL [c]), none⟩) (.nm 1) mYes (mAp2 (cmpS .In) (mVar 1) (mC (.str "abcdefghijklmnopqrstuvwxyz"))) [some (D.str (SL l)), none] (l.map fun c => D.str (SL [c])) [] m = .ok (.lst ((l.map fun c => D.str (SL [c])).map fun d => .bl (nameC d))) m :=
      lc_map (fun d => .bl (nameC d)) (fun d hd => by
        obtain ⟨c, _, rfl⟩ := List.mem_map.mp hd
        exact ⟨_, rfl, by simp [in_abc, nameC]⟩) (by simp; omega)
    have ad := all_D nameC (l.map fun c => D.str (SL [c])) m
    have na : (l.map fun c => D.str (SL [c])).all nameC = l.all fun c => decide (97 ≤ c) && decide (c ≤ 122) := by rw [List.all_map]; congr 1; funext c; simp [nameC]
    rw [na] at ad
    have nb : nameB (.str (SL l)) = (decide (1 ≤ l.length) && decide (l.length ≤ 6) && l.all fun c => decide (97 ≤ c) && decide (c ≤ 122)) := by simp [nameB, SL]
    rw [nb]
    by_cases c1 : 1 ≤ l.length
    · by_cases c2 : l.length ≤ 6
      · have i1 : (1 : Int) ≤ l.length := by omega
        have i2 : (l.length : Int) ≤ 6 := by omega
        simp only [decide_eq_true c1, decide_eq_true c2, Bool.true_and]
        generalize (l.all fun c => decide (97 ≤ c) && decide (c ≤ 122)) = q at *
        simp [b4, b4_s1, b4_s2, startE, N, isi_str _ _ hz, isStrD, L, i_sl, lc, ad, i1, i2, -List.map_map]
      · have i1 : (1 : Int) ≤ l.length := by omega
        have i2 : ¬ (l.length : Int) ≤ 6 := by omega
        simp [b4, b4_s1, startE, N, isi_str _ _ hz, isStrD, L, i1, i2, c2]
    · have i1 : ¬ (1 : Int) ≤ l.length := by omega
      simp only [decide_eq_false c1, Bool.false_and]
      simp [b4, b4_s1, startE, N, isi_str _ _ hz, isStrD, L, i1]
  | _ => simp [b4, b4_s1, startE, N, isi_str _ _ hz, isStrD, nameB]
theorem isnum_ (n : Nat) (many : Int) (d : D) (h : Nc d) (m : Sto) : callD fs (n + 2) 5 [.int many, d] m = .ok (.bl (numB many d)) m := by
  rw [e5]
  have N : p5.N.length = 2 := rfl
  have w := whole_ n d h.fz m
  cases d with
  | int i =>
    by_cases c : 0 ≤ i
    · simp [b5, b5_s1, startE, N, w, isIntD, numB, c]
    · simp [b5, b5_s1, startE, N, w, isIntD, numB, c]
  | _ => simp [b5, b5_s1, startE, N, w, isIntD, numB]
theorem isroads_ (n : Nat) (many : Int) (d : D) (h : Nc d) (m : Sto) : callD fs (n + 3) 6 [.int many, d] m = .ok (.bl (roadsB many d)) m := by
  rw [e6]
  have N : p6.N.length = 3 := rfl
  have hz := h.fz
  cases d with
  | tup xs =>
    obtain ⟨h1, h2⟩ := h.tup
    have lc : lcL (Live ⟨xs, none⟩) (.nm 2) mYes (mCall (callD fs (n + 2)) 5 (mCons (mVar 0) (mCons (mVar 2) mNil)) []) [some (D.int many), some (D.tup xs), none] xs [] m = .ok (.lst (xs.map fun d => .bl (numB many d))) m :=
      lc_map (fun d => .bl (numB many d)) (fun d hd => ⟨_, rfl, by simp [isnum_ n many d (h1 d hd) m]⟩) (by omega)
    by_cases c1 : 2 ≤ (xs.length : Int)
    · by_cases c2 : (xs.length : Int) ≤ 4
      · simp [b6, b6_s1, b6_s2, startE, N, isi_tup _ _ hz, isTupD, c1, c2, lc, all_D, roadsB]
      · simp [b6, b6_s1, startE, N, isi_tup _ _ hz, isTupD, c1, c2, roadsB]
    · simp [b6, b6_s1, startE, N, isi_tup _ _ hz, isTupD, c1, roadsB]
  | _ => simp [b6, b6_s1, startE, N, isi_tup _ _ hz, isTupD, roadsB]
theorem isbox_ (n : Nat) (bx : List Str) (d : D) (h : Nc d) (m : Sto) : callD fs (n + 1) 7 [.lst (bx.map .str), d] m = .ok (.bl (boxB bx d)) m := by
  rw [e7]
  have N : p7.N.length = 2 := rfl
  have hz := h.fz
  cases d with
  | str x => simp [b7, b7_s1, startE, N, isi_str _ _ hz, isStrD, in_strsL, boxB]
  | _ => simp [b7, b7_s1, startE, N, isi_str _ _ hz, isStrD, boxB]
theorem isrow_ (n : Nat) (bx beh : List Str) (many : Int) (d : D) (h : Nc d) (m : Sto) : callD fs (n + 4) 8 [.lst (bx.map .str), .lst (beh.map .str), .int many, d] m = .ok (.bl (rowB bx beh many d)) m := by
  rw [e8]
  have N : p8.N.length = 7 := rfl
  have hz := h.fz
  cases d with
  | tup xs =>
    obtain ⟨h1, h2⟩ := h.tup
    match xs, h, hz, h1 with
    | [], h, hz, _ => simp [b8, b8_s1, startE, N, isi_tup _ _ hz, isTupD, rowB]
    | a :: rest, h, hz, h1 =>
      have ha := (h1 a (by simp)).fz
      have nz : ¬ ((rest.length : Int) + 1 = 0) := by omega
      cases a with
      | str w =>
        have hr : ∀ x ∈ rest, Nc x := fun x hx => h1 x (by simp [hx])
        have nl := h.tail.nil_eq
        have st : b8_s1 (callD fs (n + 3)) [some (.lst (bx.map .str)), some (.lst (beh.map .str)), some (.int many), some (.tup (.str w :: rest)), none, none, none] m = .nx [some (.lst (bx.map .str)), some (.lst (beh.map .str)), some (.int many), some (.tup (.str w :: rest)), none, none, none] m := by
          simp [b8_s1, isi_tup _ _ hz, isTupD, nz, isi_str _ _ ha, isStrD]
        have two : ∀ f g : D → Bool, ∀ a b c : D, ∀ r : List D, arg2 f g (a :: b :: c :: r) = false := fun _ _ _ _ _ _ => rfl
        have n1 : ∀ (a b : D) (r : List D), ¬ (((a :: b :: r).length : Int) = 1) := fun a b r => by simp only [List.length_cons]; omega
        have n2 : ∀ (a b c : D) (r : List D), ¬ (((a :: b :: c :: r).length : Int) = 2) := fun a b c r => by simp only [List.length_cons]; omega
        have a1 : ∀ (f : D → Bool) (k : Nat), (rest.length : Int) ≠ 1 → arg1 f rest = false := fun f _ z => by
          match rest, z with
          | [], _ => rfl
          | [_], z => simp at z
          | _ :: _ :: _, _ => rfl
        have a2 : ∀ (f g : D → Bool), (rest.length : Int) ≠ 2 → arg2 f g rest = false := fun f g z => by
          match rest, z with
          | [], _ => rfl
          | [_], z => rfl
          | [_, _], z => simp at z
          | _ :: _ :: _ :: _, _ => rfl
        have w1 : (rest.length : Int) = 1 → ∃ a, rest = [a] ∧ Nc a := fun z => by
          match rest, z, hr with
          | [a], _, hr => exact ⟨a, rfl, hr a (by simp)⟩
          | [], z, _ => simp at z
          | _ :: _ :: r, z, _ => simp only [List.length_cons] at z; omega
        have w2 : (rest.length : Int) = 2 → ∃ a b, rest = [a, b] ∧ Nc a ∧ Nc b := fun z => by
          match rest, z, hr with
          | [a, b], _, hr => exact ⟨a, b, rfl, hr a (by simp), hr b (by simp)⟩
          | [], z, _ => simp at z
          | [_], z, _ => simp at z
          | _ :: _ :: _ :: r, z, _ => simp only [List.length_cons] at z; omega
        by_cases q1 : w = "set"
        · subst q1
          by_cases c : (rest.length : Int) = 2
          · obtain ⟨a, b, rfl, ha, hb⟩ := w2 c
            have f1 := isbox_ (n + 2) bx a ha m
            have f2 := isline_ (n + 1) bx.length b hb m
            simp [b8, st, b8_s2, startE, N, bp_tpS, f1, f2, rowB, arg2]
            cases boxB bx a <;> simp
          · simp [b8, st, b8_s2, startE, N, bp_tpS, c, rowB, a2 _ _ c]
        by_cases q2 : w = "read"
        · subst q2
          by_cases c : (rest.length : Int) = 1
          · obtain ⟨a, rfl, ha⟩ := w1 c
            have f1 := isbox_ (n + 2) bx a ha m
            simp [b8, st, b8_s3, startE, N, bp_tpS, f1, rowB, arg1]
          · simp [b8, st, b8_s3, startE, N, bp_tpS, c, rowB, a1 _ 0 c]
        by_cases q3 : w = "want"
        · subst q3
          by_cases c : (rest.length : Int) = 1
          · obtain ⟨a, rfl, ha⟩ := w1 c
            have f1 := iswish_ n bx.length a ha m
            simp [b8, st, b8_s4, b8_s5, startE, N, bp_tpS, c_inT, inFl, isBase, eqFl, f1, rowB, arg1]
          · simp [b8, st, b8_s4, b8_s5, startE, N, bp_tpS, c_inT, inFl, isBase, eqFl, c, rowB, a1 _ 0 c]
        by_cases q4 : w = "claim"
        · subst q4
          by_cases c : (rest.length : Int) = 1
          · obtain ⟨a, rfl, ha⟩ := w1 c
            have f1 := iswish_ n bx.length a ha m
            simp [b8, st, b8_s4, b8_s5, startE, N, bp_tpS, c_inT, inFl, isBase, eqFl, f1, rowB, arg1]
          · simp [b8, st, b8_s4, b8_s5, startE, N, bp_tpS, c_inT, inFl, isBase, eqFl, c, rowB, a1 _ 0 c]
        by_cases q5 : w = "test"
        · subst q5
          by_cases c : (rest.length : Int) = 2
          · obtain ⟨a, b, rfl, ha, hb⟩ := w2 c
            have f1 := iswish_ n bx.length a ha m
            have f2 := isnum_ (n + 1) many b hb m
            simp [b8, st, b8_s5, b8_s6, startE, N, bp_tpS, c_inT, inFl, isBase, eqFl, f1, f2, rowB, arg2]
            cases wishB bx.length a <;> simp
          · simp [b8, st, b8_s5, b8_s6, startE, N, bp_tpS, c_inT, inFl, isBase, eqFl, c, rowB, a2 _ _ c]
        by_cases q6 : w = "either"
        · subst q6
          by_cases c : (rest.length : Int) = 1
          · obtain ⟨a, rfl, ha⟩ := w1 c
            have f1 := isroads_ n many a ha m
            simp [b8, st, b8_s5, b8_s7, startE, N, bp_tpS, c_inT, inFl, isBase, eqFl, f1, rowB, arg1]
          · simp [b8, st, b8_s5, b8_s7, startE, N, bp_tpS, c_inT, inFl, isBase, eqFl, c, rowB, a1 _ 0 c]
        by_cases q7 : w = "jump"
        · subst q7
          by_cases c : (rest.length : Int) = 1
          · obtain ⟨a, rfl, ha⟩ := w1 c
            have f1 := isnum_ (n + 1) many a ha m
            simp [b8, st, b8_s5, b8_s8, startE, N, bp_tpS, c_inT, inFl, isBase, eqFl, f1, rowB, arg1]
          · simp [b8, st, b8_s5, b8_s8, startE, N, bp_tpS, c_inT, inFl, isBase, eqFl, c, rowB, a1 _ 0 c]
        by_cases q8 : w = "call"
        · subst q8
          by_cases c : (rest.length : Int) = 1
          · obtain ⟨a, rfl, ha⟩ := w1 c
            have fz := ha.fz
            cases a with
            | str x => simp [b8, st, b8_s5, b8_s9, startE, N, bp_tpS, c_inT, inFl, isBase, eqFl, rowB, arg1, boxB, isi_str _ _ fz, isStrD, in_strsL]
            | _ => simp [b8, st, b8_s5, b8_s9, startE, N, bp_tpS, c_inT, inFl, isBase, eqFl, rowB, arg1, boxB, isi_str _ _ fz, isStrD]
          · simp [b8, st, b8_s5, b8_s9, startE, N, bp_tpS, c_inT, inFl, isBase, eqFl, c, rowB, a1 _ 0 c]
        have z1 : ∀ s : Str, ¬ w = s → (w == s) = false := fun s h => by simpa using h
        have z2 : ∀ s : Str, ¬ w = s → (s == w) = false := fun s h => by simpa using fun e => h e.symm
        have eE : cmpB .Eq (.lst rest) (.lst []) = some rest.isEmpty := nl
        by_cases q9 : w = "end"
        · subst q9
          simp [b8, st, b8_s5, b8_s10, startE, N, bp_tpS, c_inT, inFl, isBase, eqFl, rowB, eE]
        · simp [b8, st, b8_s5, b8_s10, startE, N, bp_tpS, c_inT, inFl, isBase, eqFl, rowB, q1, q2, q3, q4, q5, q6, q7, q8, q9, z1 _ q1, z1 _ q2, z1 _ q3, z1 _ q4, z1 _ q5, z1 _ q6, z1 _ q7, z1 _ q8, z1 _ q9, z2 _ q3, z2 _ q4]
      | _ => simp [b8, b8_s1, startE, N, isi_tup _ _ hz, isTupD, isi_str _ _ ha, isStrD, nz, rowB]
  | _ => simp [b8, b8_s1, startE, N, isi_tup _ _ hz, isTupD, rowB]


end K17

set_option Elab.async false
set_option linter.all false
set_option maxRecDepth 100000
set_option maxHeartbeats 8000000
namespace K17
open PySem PySem.Spec L2 DI
/-! programs looked at -/
theorem nameof_s (n : Nat) (x : Str) (m : Sto) : callD fs (n + 1) 10 [.str x] m = .ok (.str x) m := by
  rw [e10]
  have N : p10.N.length = 1 := rfl
  simp [b10, b10_s1, startE, N, isi_tup _ (.str x) rfl, isTupD]
theorem nameof_t (n : Nat) (x : D) (xs : List D) (m : Sto) : callD fs (n + 1) 10 [.tup (x :: xs)] m = .ok x m := by
  rw [e10]
  have N : p10.N.length = 1 := rfl
  simp [b10, b10_s1, startE, N, isi_tup _ (.tup (x :: xs)) rfl, isTupD]
theorem ispart_ (n : Nat) (x : Str) (hx : NmOk x) (rows : List D) (h1 : 1 ≤ rows.length) (h2 : rows.length ≤ 24) (m : Sto) : callD fs (n + 2) 11 [.tup [.str x, .lst rows]] m = .ok (.bl true) m := by
  rw [e11]
  have N : p11.N.length = 1 := rfl
  have f1 := isname_ n (.str x) hx.nc m
  rw [hx.nameB] at f1
  have i1 : (1 : Int) ≤ rows.length := by omega
  have i2 : (rows.length : Int) ≤ 24 := by omega
  simp [b11, b11_s1, b11_s2, startE, N, isi_tup _ (.tup [.str x, .lst rows]) rfl, isTupD, f1, isi_lst _ (.lst rows) rfl, isLstD, i1, i2]
def WrongI (g : Nat) (things : List D) (nm : D → Str) (m : Sto) (ds : List D) (r : DI.Env) (mm : Sto) : Prop := ∃ (i : Nat) (done rest : List D) (x3 x4 : Option D), ds = enF i rest ∧ things = done ++ rest ∧ r = [some (.lst things), some (.fn g), some (.ref m.length), x3, x4] ∧ mm = m ++ [.lst (done.map fun d => .str (nm d))]
theorem wrong_ (n g : Nat) (hg : okL arT 1 g = true) (things : List D) (nm : D → Str) (H1 : ∀ d ∈ things, ∀ m, callD fs (n + 2) g [d] m = .ok (.bl true) m) (H2 : ∀ d ∈ things, ∀ m, callD fs (n + 2) 10 [d] m = .ok (.str (nm d)) m) (nd : (things.map nm).Nodup) (hl : things.length ≤ 1000) (m : Sto) :
    callD fs (n + 3) 9 [.lst things, .fn g] m = .ok .non (m ++ [.lst (things.map fun d => .str (nm d))]) := by
  rw [e9]
  have N : p9.N.length = 5 := rfl
  have st : ∀ d ds r mm, WrongI g things nm m (d :: ds) r mm → ∃ r1 r2 m2, bindP (.tp [.nm 3, .nm 4]) d r = some r1 ∧ (b9_l2 (callD fs (n + 2)) r1 mm = .nx r2 m2 ∨ b9_l2 (callD fs (n + 2)) r1 mm = .ct r2 m2) ∧ WrongI g things nm m ds r2 m2 := by
    rintro d ds r mm ⟨i, done, rest, x3, x4, e, ht, rfl, rfl⟩
    obtain ⟨x, rs, rfl, rfl, rfl⟩ := enF_some e
    have hx : x ∈ things := by rw [ht]; simp
    have f1 := fun m => H1 x hx m
    have f2 := fun m => H2 x hx m
    have ni : ¬ nm x ∈ done.map nm := fun z => by
      rw [ht, List.map_append, List.map_cons, List.nodup_append] at nd
      exact nd.2.2 _ z _ (List.mem_cons_self) rfl
    have rv : ∀ c, rsv (.ref m.length) (m ++ [.lst c]) = .lst c := fun c => rsv_ref _ _ _ (get_snoc _ _)
    have inn : inR (.str (nm x)) (.ref m.length) (m ++ [.lst (done.map fun d => D.str (nm d))]) = some false := by
      refine inR_fl _ _ _ (rv _) ?_
      have := inFl_strs (nm x) (done.map nm)
      rw [List.map_map] at this
      rw [show (done.map fun d => D.str (nm d)) = done.map (D.str ∘ nm) from rfl, this, any_beq, decide_eq_false ni]
    have cs := csr_in _ _ inn
    have il : ∀ c, isLst (.ref m.length) (m ++ [.lst c]) = true := fun c => by simp [isLst]
    have ap : appO (.ref m.length) [.str (nm x)] (m ++ [.lst (done.map fun d => D.str (nm d))]) = some (.non, m ++ [.lst ((done ++ [x]).map fun d => D.str (nm d))]) := by
      have : done.length < lim := by
        have hh : things.length = done.length + (rs.length + 1) := by rw [ht]; simp
        unfold lim; omega
      simp [appO, this]
    refine ⟨_, _, _, rfl, .inl ?_, i + 1, done ++ [x], rs, some (.int i), some x, rfl, by simp [ht], rfl, rfl⟩
    simp [b9_l2, b9_s1, hg, f1, f2, cs, il, ap]
  obtain ⟨r2, m2, f, i, done, rest, x3, x4, he, ht, rfl, rfl⟩ := for_left (it := enF 0 things) (ds := enF 0 things) (m := m ++ [.lst []]) (r := [some (.lst things), some (.fn g), some (.ref m.length), none, none]) (WrongI g things nm m) st ⟨0, [], things, none, none, rfl, rfl, rfl, rfl⟩
  have := enF_none he
  subst this
  rw [List.append_nil] at ht
  subst ht
  simp [b9, startE, N, enumD_F, f]
theorem looklist_ (n g : Nat) (hg : okL arT 1 g = true) (w : Str) (most : Int) (things : List D) (nm : D → Str) (H1 : ∀ d ∈ things, ∀ m, callD fs (n + 2) g [d] m = .ok (.bl true) m) (H2 : ∀ d ∈ things, ∀ m, callD fs (n + 2) 10 [d] m = .ok (.str (nm d)) m) (nd : (things.map nm).Nodup) (hl : things.length ≤ 1000) (h1 : 1 ≤ things.length) (h2 : (things.length : Int) ≤ most) (m : Sto) :
    callD fs (n + 4) 12 [.str w, .lst things, .int most, .fn g] m = .ok .non (m ++ [.lst (things.map fun d => .str (nm d))]) := by
  rw [e12]
  have N : p12.N.length = 5 := rfl
  have f := wrong_ n g hg things nm H1 H2 nd hl m
  have i1 : (1 : Int) ≤ things.length := by omega
  have isN : cmpB .IsNot D.non D.non = some false := rfl
  simp [b12, b12_s2, startE, N, isi_lst _ (.lst things) rfl, isLstD, i1, h2, f, isN]
/-- one row of the walk through a part -/
def RowI (m : Sto) (P : Prog) (x4 : List D) (i : Nat) (x5 : Option D) (rows : List Rw) (ds : List D) (r : DI.Env) (mm : Sto) : Prop :=
  mm = m ∧ ∃ (j : Nat) (done rest : List Rw) (x7 x8 x9 x10 : Option D), ds = enF j (rowsD P.bx P.pn rest) ∧ rows = done ++ rest ∧ j = done.length ∧ r = [some P.D, some P.boxesD, some (.lst P.partsL), some (.int i), some (.lst x4), x5, some (.lst (rowsD P.bx P.pn rows)), x7, x8, x9, x10]
theorem lookrow_ (n : Nat) {k : Nat} {P : Prog} (h : P.Ok k) {i : Nat} {rows : List Rw} (e : P.rs[i]? = some rows) (x5 : Option D) (m : Sto) : ∀ d ds r mm, RowI m P ((P.pn.drop (i + 1)).map .str) i x5 rows (d :: ds) r mm → ∃ r1 r2 m2, bindP (.tp [.nm 7, .nm 8]) d r = some r1 ∧ ((sSeq (b13_s7 (callD fs (n + 4))) (b13_s9 (callD fs (n + 4)))) r1 mm = .nx r2 m2 ∨ (sSeq (b13_s7 (callD fs (n + 4))) (b13_s9 (callD fs (n + 4)))) r1 mm = .ct r2 m2) ∧ RowI m P ((P.pn.drop (i + 1)).map .str) i x5 rows ds r2 m2 := by
  rintro d ds r mm ⟨rfl, j, done, rest, x7, x8, x9, x10, ed, hd, hj, rfl⟩
  obtain ⟨x, rs, hx, rfl, rfl⟩ := enF_some ed
  match rest, hx with
  | row :: rest, hx =>
    cases hx
    have q := h.rk i rows e
    have hr : row ∈ rows := by rw [hd]; simp
    have f1 := isrow_ n P.bx (P.pn.drop (i + 1)) rows.length (row.D P.bx P.pn) (row_nc h e hr) mm
    rw [rowB_ok (q.ok row hr)] at f1
    have hlen : rows.length = done.length + (rest.length + 1) := by rw [hd]; simp
    have last : ∀ w l, row.D P.bx P.pn = .tup (.str w :: l) → (j : Int) = (rows.length : Int) - 1 → (w = "either" ∨ w = "jump" ∨ w = "end") := fun w l hw z => by
      have hla := q.la j row (by rw [hd, hj]; simp) (by omega)
      cases row <;> simp [Rw.last] at hla <;> simp [Rw.D] at hw <;> simp [← hw.1]
    obtain ⟨w, l, hw⟩ : ∃ w l, row.D P.bx P.pn = .tup (.str w :: l) := by cases row <;> exact ⟨_, _, rfl⟩
    have hL : (rowsD P.bx P.pn rows).length = rows.length := by simp
    have cEq : cmpB .Eq (.int (j : Int)) (.int ((rows.length : Int) - 1)) = some (decide ((j : Int) = (rows.length : Int) - 1)) := by rw [c_eqI]; congr 1
    rw [hw] at f1 ⊢
    refine ⟨_, _, _, rfl, .inl ?_, rfl, j + 1, done ++ [row], rest, some (.int j), some (.tup (.str w :: l)), x9, x10, rfl, by simp [hd], by simp [hj], rfl⟩
    clear hd hlen q hr hx
    simp only [rowsD] at hL
    simp only [Prog.D, Prog.boxesD, rowsD] at *
    generalize P.partsL = PL at *
    generalize P.bx.map D.str = BX at *
    generalize (P.pn.drop (i + 1)).map D.str = BH at *
    by_cases c : (j : Int) = (rows.length : Int) - 1
    · have hl := last w l hw c
      rw [decide_eq_true c] at cEq
      clear last c
      generalize rows.map (Rw.D P.bx P.pn) = RW at *
      rcases hl with rfl | rfl | rfl <;> simp [b13_s7, b13_s9, f1, hL, cEq, c_ninT, inFl, isBase, eqFl, -c_eqI]
    · rw [decide_eq_false c] at cEq
      clear last c
      generalize rows.map (Rw.D P.bx P.pn) = RW at *
      simp [b13_s7, b13_s9, f1, hL, cEq, -c_eqI]
/-- one part of the walk through a program -/
def PartI (m : Sto) (P : Prog) (ds : List D) (r : DI.Env) (mm : Sto) : Prop :=
  mm = m ∧ ∃ (i : Nat) (rest : List (Str × List Rw)) (x3 x4 x5 x6 x7 x8 x9 x10 : Option D), ds = enF i (rest.map (partD P.bx P.pn)) ∧ rest = (P.pn.zip P.rs).drop i ∧ r = [some P.D, some P.boxesD, some (.lst P.partsL), x3, x4, x5, x6, x7, x8, x9, x10]
theorem lookpart_ (n : Nat) {k : Nat} {P : Prog} (h : P.Ok k) (m : Sto) : ∀ d ds r mm, PartI m P (d :: ds) r mm → ∃ r1 r2 m2, bindP (.tp [.nm 3, .tp [.nm 5, .nm 6]]) d r = some r1 ∧ (b13_l10 (callD fs (n + 4)) r1 mm = .nx r2 m2 ∨ b13_l10 (callD fs (n + 4)) r1 mm = .ct r2 m2) ∧ PartI m P ds r2 m2 := by
  rintro d ds r mm ⟨rfl, i, rest, x3, x4, x5, x6, x7, x8, x9, x10, ed, hd, rfl⟩
  obtain ⟨x, rs, hx, rfl, rfl⟩ := enF_some ed
  match rest, hx with
  | (nm, rows) :: rest, hx =>
    cases hx
    have hz : (P.pn.zip P.rs)[i]? = some (nm, rows) := by
      have := congrArg (fun l => l[0]?) hd
      simpa using this.symm
    have hrest : rest = (P.pn.zip P.rs).drop (i + 1) := by
      have := congrArg (fun l => l.drop 1) hd
      simpa using this
    obtain ⟨e1, e2⟩ := List.getElem?_zip_eq_some.mp hz
    have cut : cutD P.partsL (some ((i : Int) + 1)) none = rest.map (partD P.bx P.pn) := by
      have := cutN_from P.partsL (i + 1)
      rw [show ((i : Int) + 1) = ((i + 1 : Nat) : Int) by omega, this, hrest, Prog.partsL, List.map_drop]
    have beh : (rest.map (partD P.bx P.pn)).map (fun d => match d with | .tup (.str x :: _) => .str x | d => d) = (P.pn.drop (i + 1)).map D.str := by
      rw [List.map_map, show ((fun d => match d with | D.tup (.str x :: _) => D.str x | d => d) ∘ partD P.bx P.pn) = D.str ∘ Prod.fst from rfl, ← List.map_map, hrest, List.map_drop, List.map_fst_zip (by rw [h.len]; omega)]
    have lc : lcL (Live ⟨rest.map (partD P.bx P.pn), none⟩) (.tp [.nm 9, .nm 10]) mYes (mVar 9) [some P.D, some P.boxesD, some (.lst P.partsL), some (.int i), x4, some (.str nm), some (.lst (rowsD P.bx P.pn rows)), x7, x8, none, none] (rest.map (partD P.bx P.pn)) [] mm = .ok (.lst ((P.pn.drop (i + 1)).map D.str)) mm := by
      rw [← beh]
      refine lc_map _ (fun d hd => ?_) (by rw [List.length_map, hrest, List.length_drop, List.length_zip]; have := h.p2; omega)
      obtain ⟨y, _, rfl⟩ := List.mem_map.mp hd
      exact ⟨_, rfl, by simp⟩
    obtain ⟨r2, m2, f, rfl, j, done, rr, x7', x8', x9', x10', he, hh, _, rfl⟩ := for_left (it := enF 0 (rowsD P.bx P.pn rows)) (ds := enF 0 (rowsD P.bx P.pn rows)) (m := mm) (r := [some P.D, some P.boxesD, some (.lst P.partsL), some (.int i), some (.lst ((P.pn.drop (i + 1)).map .str)), some (.str nm), some (.lst (rowsD P.bx P.pn rows)), x7, x8, x9, x10]) _ (lookrow_ n h e2 (some (.str nm)) mm)
      ⟨rfl, 0, [], rows, x7, x8, x9, x10, rfl, rfl, rfl, rfl⟩
    refine ⟨_, _, _, rfl, .inl ?_, rfl, i + 1, rest, some (.int i), some (.lst ((P.pn.drop (i + 1)).map .str)), some (.str nm), some (.lst (rowsD P.bx P.pn rows)), x7', x8', x9', x10', rfl, hrest, rfl⟩
    simp only [partD] at *
    generalize P.partsL = PL at *
    generalize rowsD P.bx P.pn rows = RW at *
    generalize rest.map (fun p => D.tup [D.str p.fst, D.lst (rowsD P.bx P.pn p.snd)]) = RS at *
    simp only [Prog.boxesD] at *
    generalize P.bx.map D.str = BX at *
    generalize (P.pn.drop (i + 1)).map D.str = BH at *
    simp [b13_l10, b13_s5, cut, lc, enumD_F, f]
/-- what is a program is let by -/
theorem look_ (n : Nat) {k : Nat} {P : Prog} (h : P.Ok k) (m : Sto) : callD fs (n + 5) 13 [P.D] m = .ok .non (m ++ [.lst (P.bx.map .str), .lst (P.pn.map .str)]) := by
  rw [e13]
  have N : p13.N.length = 11 := rfl
  have g1 := fun m => looklist_ n 4 (by decide) "boxes" 8 (P.bx.map .str) (fun d => match d with | .str x => x | _ => Str.empty) (fun d hd m => by
    obtain ⟨x, hx, rfl⟩ := List.mem_map.mp hd
    have := isname_ (n + 1) (.str x) (h.bk x hx).nc m
    rwa [(h.bk x hx).nameB] at this) (fun d hd m => by
    obtain ⟨x, hx, rfl⟩ := List.mem_map.mp hd
    exact nameof_s (n + 1) x m) (by rw [List.map_map]; exact (List.map_id P.bx).symm ▸ h.bn) (by have := h.b2; simp; omega) (by simpa using h.b1) (by have := h.b2; simp; omega) m
  have g2 := fun m => looklist_ n 11 (by decide) "parts" 6 P.partsL (fun d => match d with | .tup (.str x :: _) => x | _ => Str.empty) (fun d hd m => by
    unfold Prog.partsL at hd
    obtain ⟨⟨x, rows⟩, hx, rfl⟩ := List.mem_map.mp hd
    obtain ⟨i, hi⟩ := List.getElem?_of_mem hx
    obtain ⟨e1, e2⟩ := List.getElem?_zip_eq_some.mp hi
    have q := h.rk i rows e2
    exact ispart_ n x (h.pk x (List.mem_of_getElem? e1)) _ (by simpa using q.l1) (by simpa using q.l2) m) (fun d hd m => by
    unfold Prog.partsL at hd
    obtain ⟨⟨x, rows⟩, hx, rfl⟩ := List.mem_map.mp hd
    exact nameof_t (n + 1) _ _ m) (by
      unfold Prog.partsL
      rw [List.map_map, show ((fun d => match d with | D.tup (.str x :: _) => x | _ => Str.empty) ∘ partD P.bx P.pn) = Prod.fst from rfl, List.map_fst_zip (by rw [h.len]; omega)]
      exact h.pd) (by have := h.p2; rw [parts_len h]; omega) (by rw [parts_len h]; exact h.p1) (by have := h.p2; rw [parts_len h]; omega) m
  have n1 : (P.bx.map D.str).map (fun d => D.str (match d with | .str x => x | _ => Str.empty)) = P.bx.map .str := by rw [List.map_map]; rfl
  have n2 : P.partsL.map (fun d => D.str (match d with | .tup (.str x :: _) => x | _ => Str.empty)) = P.pn.map .str := by
    unfold Prog.partsL
    rw [List.map_map, show ((fun d => D.str (match d with | D.tup (.str x :: _) => x | _ => Str.empty)) ∘ partD P.bx P.pn) = D.str ∘ Prod.fst from rfl, ← List.map_map, List.map_fst_zip (by rw [h.len]; omega)]
  simp only [n1] at g1
  simp only [n2] at g2
  obtain ⟨r2, m2, f, rfl, i, rest, x3, x4, x5, x6, x7, x8, x9, x10, he, hh, rfl⟩ := for_left (it := enF 0 P.partsL) (ds := enF 0 P.partsL) (m := m ++ [.lst (P.bx.map .str), .lst (P.pn.map .str)]) (r := [some P.D, some P.boxesD, some (.lst P.partsL), none, none, none, none, none, none, none, none]) _ (lookpart_ n h (m ++ [.lst (P.bx.map .str), .lst (P.pn.map .str)]))
    ⟨rfl, 0, P.pn.zip P.rs, none, none, none, none, none, none, none, none, rfl, rfl, rfl⟩
  have t : isiO [P.D, .ty "tuple"] = fun μ => some (.bl true, μ) := funext fun μ => by rw [isi_tup _ P.D rfl]; rfl
  simp only [Prog.D, Prog.boxesD] at *
  generalize P.partsL = PL at *
  generalize P.bx.map D.str = BX at *
  generalize P.pn.map D.str = PN at *
  simp [b13, b13_s2, b13_s3, b13_s4, startE, N, t, g1, g2, enumD_F, f]


end K17

set_option Elab.async false
set_option linter.all false
set_option maxRecDepth 100000
set_option maxHeartbeats 8000000
namespace K17
open PySem PySem.Spec L2 DI
/-! stands, exits -/
theorem partnums_ (n : Nat) {k : Nat} {P : Prog} (h : P.Ok k) (m : Sto) : callD fs (n + 1) 14 [P.D] m = .ok (.dct (kvN 0 P.pn)) m := by
  rw [e14]
  have N : p14.N.length = 4 := rfl
  have dc := dc_pure (p := .tp [.nm 1, .tp [.nm 2, .nm 3]]) (mk := mVar 2) (mv := mVar 1) (r := [some P.D, none, none, none]) (m := m) (fun d => match d with
    | .tup [.int i, .tup (.str x :: _)] => x
    | _ => Str.empty) (fun d => match d with
    | .tup [.int i, .tup (.str x :: _)] => .int i
    | d => d) (it := enF 0 P.partsL) (ds := enF 0 P.partsL) (acc := []) (fun d hd => by
      unfold enF at hd
      obtain ⟨⟨y, i⟩, hy, rfl⟩ := List.mem_map.mp hd
      have hm := List.mem_zipIdx hy
      obtain ⟨_, _, hm⟩ := hm
      have hy : y ∈ P.partsL := by rw [hm]; exact List.getElem_mem _
      unfold Prog.partsL at hy
      obtain ⟨⟨x, rows⟩, _, rfl⟩ := List.mem_map.mp hy
      exact ⟨_, rfl, by simp, by simp⟩) (fun d hd => rfl) (by
      have := congrArg (List.map fun (p : D × D) => match p.1 with | .str x => x | _ => Str.empty) (kv_parts P.bx P.pn (P.pn.zip P.rs) 0)
      rw [List.map_map] at this
      have e2 : ∀ (ns : List Str) (i : Nat), (kvN i ns).map (fun (p : D × D) => match p.1 with | .str x => x | _ => Str.empty) = ns := fun ns => by
        induction ns with
        | nil => intro i; rfl
        | cons x ns ih => intro i; rw [kvN_cons, List.map_cons, ih]
      rw [e2, List.map_fst_zip (by rw [h.len]; omega)] at this
      have e3 : (enF 0 P.partsL).map (fun d => match d with | .tup [.int i, .tup (.str x :: _)] => x | _ => Str.empty) = P.pn := by
        rw [← this]
        refine List.map_congr_left fun d hd => ?_
        unfold enF at hd
        obtain ⟨⟨y, i⟩, hy, rfl⟩ := List.mem_map.mp hd
        obtain ⟨_, _, hm⟩ := List.mem_zipIdx hy
        have hy : y ∈ P.partsL := by rw [hm]; exact List.getElem_mem _
        unfold Prog.partsL at hy
        obtain ⟨⟨x, rows⟩, _, rfl⟩ := List.mem_map.mp hy
        rfl
      rw [e3]; exact h.pd) (by
      have : (enF 0 P.partsL).length = P.pn.length := by rw [← parts_len h]; simp [enF]
      have := h.p2
      simp only [List.length_nil]; omega)
  have e4 : (enF 0 P.partsL).map (fun d => (D.str (match d with | .tup [.int i, .tup (.str x :: _)] => x | _ => Str.empty), (match d with | .tup [.int i, .tup (.str x :: _)] => .int i | d => d : D))) = kvN 0 P.pn := by
    have := kv_parts P.bx P.pn (P.pn.zip P.rs) 0
    rw [List.map_fst_zip (by rw [h.len]; omega)] at this
    rw [← this]
    refine List.map_congr_left fun d hd => ?_
    unfold enF at hd
    obtain ⟨⟨y, i⟩, hy, rfl⟩ := List.mem_map.mp hd
    obtain ⟨_, _, hm⟩ := List.mem_zipIdx hy
    have hy : y ∈ P.partsL := by rw [hm]; exact List.getElem_mem _
    unfold Prog.partsL at hy
    obtain ⟨⟨x, rows⟩, _, rfl⟩ := List.mem_map.mp hy
    rfl
  rw [e4, List.nil_append] at dc
  simp only [Prog.D] at dc ⊢
  generalize P.partsL = PL at *
  simp [b14, b14_s1, startE, N, enumD_F, dc]
theorem rowat_ (n : Nat) {k : Nat} {P : Prog} (h : P.Ok k) {p r : Nat} {row : Rw} (e : P.row p r = some row) (m : Sto) : callD fs (n + 1) 15 [P.D, .tup [.int p, .int r]] m = .ok (row.D P.bx P.pn) m := by
  rw [e15]
  have N : p15.N.length = 4 := rfl
  obtain ⟨rows, e1, e2, _⟩ := row_ok h e
  have a1 : atI P.partsL (p : Int) = some (.tup [.str (sAt P.pn p), .lst (rowsD P.bx P.pn rows)]) := at_nn _ _ (parts_at h e1)
  have a2 : atI (rowsD P.bx P.pn rows) (r : Int) = some (row.D P.bx P.pn) := at_nn _ _ (by rw [List.getElem?_map, e2]; rfl)
  simp only [Prog.D] at *
  generalize P.partsL = PL at *
  generalize rowsD P.bx P.pn rows = RW at *
  simp [b15, b15_s1, startE, N, a1, a2]
theorem isplace_ (n : Nat) {k : Nat} {P : Prog} (h : P.Ok k) (d : D) (hd : Nc d) (m : Sto) : callD fs (n + 2) 16 [P.D, d] m = .ok (.bl (placeB P d)) m := by
  rw [e16]
  have N : p16.N.length = 3 := rfl
  have hz := hd.fz
  have hL := parts_len h
  cases d with
  | tup xs =>
    obtain ⟨h1, h2⟩ := hd.tup
    match xs, h1 with
    | [], _ => simp [b16, b16_s1, startE, N, isi_tup _ _ hz, isTupD, placeB]
    | [a], _ => simp [b16, b16_s1, startE, N, isi_tup _ _ hz, isTupD, placeB]
    | a :: b :: c :: r, _ =>
      have : ¬ ((r.length : Int) + 1 + 1 + 1 = 2) := by omega
      simp [b16, b16_s1, startE, N, isi_tup _ _ hz, isTupD, placeB, this]
    | [a, b], h1 =>
      have wa := whole_ n a (h1 a (by simp)).fz m
      have wb := whole_ n b (h1 b (by simp)).fz m
      cases a with
      | int p =>
        cases b with
        | int r =>
          simp only [Prog.D] at *
          by_cases c1 : 0 ≤ p
          · by_cases c2 : p < P.pn.length
            · obtain ⟨rows, e1⟩ : ∃ rows, P.rs[p.toNat]? = some rows := ⟨_, List.getElem?_eq_getElem (by rw [h.len]; omega)⟩
              have a1 : atI P.partsL p = some (.tup [.str (sAt P.pn p.toNat), .lst (rowsD P.bx P.pn rows)]) := at_int c1 (parts_at h e1)
              have rn : rowsN P p = (rows.length : Int) := by simp [rowsN, e1]
              have rl : (rowsD P.bx P.pn rows).length = rows.length := by simp
              simp only [placeB, rn]
              generalize P.partsL = PL at *
              generalize rowsD P.bx P.pn rows = RW at *
              by_cases c3 : 0 ≤ r
              · simp [b16, b16_s1, b16_s2, startE, N, isi_tup _ _ hz, isTupD, wa, wb, isIntD, c1, c2, c3, hL, a1, rl]
              · simp [b16, b16_s1, b16_s2, startE, N, isi_tup _ _ hz, isTupD, wa, wb, isIntD, c1, c2, c3, hL]
            · generalize P.partsL = PL at *
              simp [b16, b16_s1, b16_s2, startE, N, isi_tup _ _ hz, isTupD, wa, wb, isIntD, c1, c2, hL, placeB]
          · generalize P.partsL = PL at *
            simp [b16, b16_s1, b16_s2, startE, N, isi_tup _ _ hz, isTupD, wa, wb, isIntD, c1, placeB]
        | _ => simp [b16, b16_s1, startE, N, isi_tup _ _ hz, isTupD, wa, wb, isIntD, placeB]
      | _ => simp [b16, b16_s1, startE, N, isi_tup _ _ hz, isTupD, wa, isIntD, placeB]
  | _ => simp [b16, b16_s1, startE, N, isi_tup _ _ hz, isTupD, placeB]
theorem placeloop_ (n : Nat) {k : Nat} {P : Prog} (h : P.Ok k) (it : List D) (x1 : Option D) (m : Sto) : ∀ (ps : List (Nat × Nat)) (x3 x4 x5 x6 : Option D), (∀ a ∈ ps, ∃ row, P.row a.1 a.2 = some row) →
    ∃ y3 y4 y5, forL (Live ⟨it, none⟩) (.tp [.nm 3, .nm 4]) (b17_l3 (callD fs (n + 2))) (zipD (ps.map plD) ((ps.drop 1).map plD)) [some P.D, x1, some (.dct (kvN 0 P.pn)), x3, x4, x5, x6] m = if chN P ps = true then .nx [some P.D, x1, some (.dct (kvN 0 P.pn)), y3, y4, y5, x6] m else .ret (.bl false) m := by
  intro ps
  induction ps with
  | nil => intro x3 x4 x5 x6 _; exact ⟨x3, x4, x5, by simp [zipD, for_nil, chN]⟩
  | cons a ps ih =>
    intro x3 x4 x5 x6 hp
    cases ps with
    | nil => exact ⟨x3, x4, x5, by simp [zipD, for_nil, chN]⟩
    | cons b ps =>
      obtain ⟨row, er⟩ := hp a (by simp)
      have f1 := rowat_ (n + 1) h er m
      obtain ⟨w, l, hw⟩ := row_D_word P.bx P.pn row
      obtain ⟨y3, y4, y5, f2⟩ := ih (some (plD a)) (some (plD b)) (some (row.D P.bx P.pn)) x6 (fun c hc => hp c (List.mem_cons_of_mem _ hc))
      have zc : zipD ((a :: b :: ps).map plD) (((a :: b :: ps).drop 1).map plD) = .tup [plD a, plD b] :: zipD ((b :: ps).map plD) (((b :: ps).drop 1).map plD) := by simp [zipD]
      have bd : b17_l3 (callD fs (n + 2)) [some P.D, x1, some (.dct (kvN 0 P.pn)), some (plD a), some (plD b), x5, x6] m = if callB P a b.1 = true then .nx [some P.D, x1, some (.dct (kvN 0 P.pn)), some (plD a), some (plD b), some (row.D P.bx P.pn), x6] m else .ret (.bl false) m := by
        obtain ⟨a1, a2⟩ := a
        obtain ⟨b1, b2⟩ := b
        have f1 : callD fs (n + 2) 15 [P.D, .tup [.int a1, .int a2]] m = _ := f1
        have er : P.row a1 a2 = some row := er
        simp only [callB, er, plD]
        generalize P.D = PD at *
        cases row with
        | call c =>
          obtain ⟨_, _, _, ⟨_, hc⟩, _⟩ := row_ok h er
          have dg : dGet (kvN 0 P.pn) (.str (sAt P.pn c)) = some (.int (c : Nat)) := by
            have := dGet_kvN (x := sAt P.pn c) (i := 0) (j := c) h.pd (by rw [List.getElem?_eq_getElem hc, sAt_eq hc])
            rwa [Nat.zero_add] at this
          have ci : ((c : Int) == (b1 : Int)) = (c == b1) := by rw [Bool.eq_iff_iff, beq_iff_eq, beq_iff_eq]; omega
          simp only [Rw.D] at f1 ⊢
          generalize kvN 0 P.pn = KV at *
          by_cases hcb : c = b1
          · subst hcb; simp [b17_l3, b17_s2, f1, dg]
          · have hcb' : ¬ ((c : Int) = (b1 : Int)) := by omega
            simp [b17_l3, b17_s2, f1, dg, hcb, hcb']
        | _ =>
          simp only [Rw.D] at f1 ⊢
          generalize kvN 0 P.pn = KV at *
          simp [b17_l3, b17_s2, f1]
      rw [zc, for_cons]
      simp only [bp_tp, bps_cons, bps_nil, bp_nm, Option.bind_some, List.set_cons_succ, List.set_cons_zero, bd]
      by_cases hc : callB P a b.1 = true
      · refine ⟨y3, y4, y5, ?_⟩
        simp only [hc, if_true, f2, chN, Bool.true_and]
      · refine ⟨x3, x4, x5, ?_⟩
        simp only [hc, if_false, chN]
        simp
theorem areplaces_ (n : Nat) {k : Nat} {P : Prog} (h : P.Ok k) (d : D) (hd : Nc d) (m : Sto) : callD fs (n + 3) 17 [P.D, d] m = .ok (.bl (placesB P d)) m := by
  rw [e17]
  have N : p17.N.length = 7 := rfl
  have hz := hd.fz
  cases d with
  | tup xs =>
    obtain ⟨h1, h2⟩ := hd.tup
    have lc : lcL (Live ⟨xs, none⟩) (.nm 6) mYes (mCall (callD fs (n + 2)) 16 (mCons (mVar 0) (mCons (mVar 6) mNil)) []) [some P.D, some (D.tup xs), none, none, none, none, none] xs [] m = .ok (.lst (xs.map fun d => .bl (placeB P d))) m := by
      generalize hP : P.D = PD
      exact lc_map (fun d => .bl (placeB P d)) (fun d hd => ⟨_, rfl, by
        have := isplace_ n h d (h1 d hd) m
        rw [hP] at this
        simp [this]⟩) (by omega)
    have ad := all_D (placeB P) xs m
    have em : eqD (.tup xs) (.tup []) = some xs.isEmpty := by
      rw [eqD_nc hd ⟨1, by decide, by decide, by simp, by simp, by simp⟩]
      cases xs <;> simp
    have em : cmpB .Eq (.tup xs) (.tup []) = some xs.isEmpty := em
    cases he : xs.isEmpty with
    | true =>
      rw [he] at em
      generalize P.D = PD at *
      simp [b17, b17_s1, startE, N, isi_tup _ _ hz, isTupD, em, placesB, he]
    | false =>
      rw [he] at em
      cases ha : xs.all (placeB P) with
      | false =>
        rw [ha] at ad
        generalize P.D = PD at *
        simp [b17, b17_s1, startE, N, isi_tup _ _ hz, isTupD, em, placesB, he, lc, ad, ha]
      | true =>
        rw [ha] at ad
        obtain ⟨ps, rfl, hp⟩ := all_pl h ha
        have f1 := partnums_ (n + 1) h m
        have dm : (ps.map plD).map decP = ps := by rw [List.map_map]; exact (List.map_congr_left fun a _ => decP_pl a).trans (List.map_id _)
        have pb : placesB P (.tup (ps.map plD)) = (chN P ps && (ps.head?.map Prod.fst == some 0)) := by simp only [placesB, he, ha, dm, Bool.not_false, Bool.true_and]
        obtain ⟨y3, y4, y5, f2⟩ := placeloop_ n h (zipD (ps.map plD) ((ps.drop 1).map plD)) (some (.tup (ps.map plD))) m ps none none none none hp
        have cut : cutD (ps.map plD) (some 1) none = (ps.drop 1).map plD := by
          have := cutN_from (ps.map plD) 1
          rw [List.map_drop]; exact this
        have z : zipI false [.tup (ps.map plD), .tup ((ps.drop 1).map plD)] = some ⟨zipD (ps.map plD) ((ps.drop 1).map plD), none⟩ := rfl
        rw [pb]
        cases ps with
        | nil => simp at he
        | cons a ps =>
          have a0 : atI ((a :: ps).map plD) 0 = some (plD a) := by rw [List.map_cons]; exact at_c0 _ _
          obtain ⟨a1, a2⟩ := a
          simp only [List.head?_cons, Option.map_some] at pb ⊢
          generalize (((a1, a2) :: ps).drop 1).map plD = Y at *
          generalize ((a1, a2) :: ps).map plD = X at *
          generalize P.D = PD at *
          generalize kvN 0 P.pn = KV at *
          cases hc : chN P ((a1, a2) :: ps) with
          | false =>
            rw [hc] at f2
            simp only [Bool.false_eq_true, if_false] at f2
            simp [b17, b17_s1, b17_s4, startE, N, isi_tup _ _ hz, isTupD, em, lc, ad, f1, cut, z, f2]
          | true =>
            rw [hc] at f2
            simp only [if_true] at f2
            have ci : ((a1 : Int) == 0) = (some a1 == some 0) := by rw [Bool.eq_iff_iff]; simp
            have ci2 : ((a1 : Int) == 0) = (a1 == 0) := by rw [Bool.eq_iff_iff, beq_iff_eq, beq_iff_eq]; omega
            simp [b17, b17_s1, b17_s4, startE, N, isi_tup _ _ hz, isTupD, em, lc, ad, f1, cut, z, f2, a0, ci2]
  | _ =>
    generalize P.D = PD at *
    simp [b17, b17_s1, startE, N, isi_tup _ _ hz, isTupD, placesB]
theorem in_ends {w : Str} {rest : List D} (h : Nc (.tup (.str w :: rest))) (m : Sto) : inR (.tup (.str w :: rest)) (.tup [.tup [.str "ended"], .tup [.str "failed"]]) m = some ((decide (w = "ended") || decide (w = "failed")) && rest.isEmpty) := by
  rw [inR_tup h ⟨1, by decide, by decide, by decide +kernel, by decide +kernel, by decide +kernel⟩]
  have e : dEqs [] rest = rest.isEmpty := by cases rest <;> simp
  have o : ∀ a : Str, (a == w) = decide (w = a) := fun a => by rw [Bool.eq_iff_iff, beq_iff_eq, decide_eq_true_eq]; exact eq_comm
  simp only [List.any_cons, List.any_nil, dEq_tup, dEqs_cons, dEq_str, e, o, Bool.or_false]
  cases rest.isEmpty <;> simp
theorem isstand_of_ (n : Nat) {k : Nat} {P : Prog} (h : P.Ok k) (d : D) (hd : Nc d) (m : Sto) : callD fs (n + 4) 18 [P.D, d] m = .ok (.bl (standB P d)) m := by
  rw [e18]
  have N : p18.N.length = 2 := rfl
  have hz := hd.fz
  cases d with
  | tup xs =>
    obtain ⟨h1, h2⟩ := hd.tup
    match xs, hd, hz, h1 with
    | [], hd, hz, _ =>
      generalize P.D = PD at *
      simp [b18, b18_s1, startE, N, isi_tup _ _ hz, isTupD, standB]
    | a :: rest, hd, hz, h1 =>
      have ha := (h1 a (by simp)).fz
      have nz : ¬ ((rest.length : Int) + 1 = 0) := by omega
      cases a with
      | str w =>
        have ie := csr_in _ _ (in_ends hd m)
        by_cases hw : w = "at"
        · subst hw
          match rest, h1, nz with
          | [], _, nz =>
            generalize P.D = PD at *
            simp [b18, b18_s1, b18_s2, startE, N, isi_tup _ _ hz, isTupD, isi_str _ _ ha, isStrD, standB, arg1]
          | [b], h1, nz =>
            have f1 := areplaces_ n h b (h1 b (by simp)) m
            generalize P.D = PD at *
            simp [b18, b18_s1, b18_s2, startE, N, isi_tup _ _ hz, isTupD, isi_str _ _ ha, isStrD, standB, arg1, f1]
          | b :: c :: r, _, nz =>
            generalize P.D = PD at *
            have n2 : ¬ ((r.length : Int) + 1 + 1 + 1 = 2) := by omega
            have n3 : ¬ ((r.length : Int) + 1 + 1 + 1 = 0) := by omega
            simp [b18, b18_s1, b18_s2, startE, N, isi_tup _ _ hz, isTupD, isi_str _ _ ha, isStrD, standB, arg1, n2, n3]
        · have hw2 : (w == Str.ofString "at") = false := by simpa using hw
          generalize P.D = PD at *
          simp [b18, b18_s1, b18_s3, startE, N, isi_tup _ _ hz, isTupD, isi_str _ _ ha, isStrD, nz, hw, hw2, ie, standB]
      | _ =>
        generalize P.D = PD at *
        simp [b18, b18_s1, startE, N, isi_tup _ _ hz, isTupD, isi_str _ _ ha, isStrD, nz, standB]
  | _ =>
    generalize P.D = PD at *
    simp [b18, b18_s1, startE, N, isi_tup _ _ hz, isTupD, standB]


end K17

set_option Elab.async false
set_option linter.all false
set_option maxRecDepth 100000
set_option maxHeartbeats 8000000
namespace K17
open PySem PySem.Spec L2 DI
/-! exits -/
theorem contrary_ (n : Nat) {k s : Nat} {w : Wsh} (h : WOk k s w) (hs : s ≤ 8) (m : Sto) : callD fs (n + 1) 3 [wsI w] m = .ok (wsI (negW w)) m := by
  rw [e3]
  have N : p3.N.length = 4 := rfl
  obtain ⟨w, l⟩ := w
  obtain ⟨h1, h2, h3⟩ := h
  have lc : lcL (Live ⟨l.map D.int, none⟩) (.nm 3) mYes (mAp2 (binS .Sub) (mC (.int 0)) (mVar 3)) [some (wsI (w, l)), some (.str w), some (lnI l), none] (l.map D.int) [] m = .ok (.lst (((negW (w, l)).2).map D.int)) m := by
    have := lc_map (p := .nm 3) (me := mAp2 (binS .Sub) (mC (.int 0)) (mVar 3)) (r := [some (wsI (w, l)), some (.str w), some (lnI l), none]) (m := m) negD (it := l.map D.int) (ds := l.map D.int) (fun d hd => by
      obtain ⟨c, _, rfl⟩ := List.mem_map.mp hd
      exact ⟨_, rfl, by simp [negD]⟩) (by rw [List.length_map]; simp only at h2; omega)
    rw [this, neg_map]; rfl
  have io : (negW (w, l)).1 = othW w := rfl
  simp only [wsI, lnI, io] at lc ⊢
  generalize (negW (w, l)).2.map D.int = NL at *
  generalize l.map D.int = L at *
  simp only at h1
  rcases h1 with rfl | rfl <;> simp [b3, b3_s1, startE, N, lc, othW, intO]
theorem moved_ (n : Nat) (X : List D) (hX : X.length ≤ 100) (p r q : Int) (m : Sto) : callD fs (n + 1) 20 [.tup (X ++ [.tup [.int p, .int r]]), .int q] m = .ok (.tup [.str "at", .tup (X ++ [.tup [.int p, .int q]])]) m := by
  rw [e20]
  have N : p20.N.length = 5 := rfl
  have ad : ∀ y : D, binS .Add (.tup X) (.tup [y]) m = some (.tup (X ++ [y]), m) := fun y => v_tupAdd m _ _ (by simp; omega)
  simp [b20, b20_s1, startE, N, bp_M1, ad]
theorem nextstand_ (n : Nat) (X : List D) (hX : X.length ≤ 100) (p r : Int) (m : Sto) : callD fs (n + 2) 21 [.tup (X ++ [.tup [.int p, .int r]])] m = .ok (.tup [.str "at", .tup (X ++ [.tup [.int p, .int (r + 1)]])]) m := by
  rw [e21]
  have N : p21.N.length = 1 := rfl
  have f := moved_ n X hX p r (r + 1) m
  have a1 := at_last X (.tup [.int p, .int r])
  generalize X ++ [.tup [.int p, .int r]] = Y at *
  simp [b21, b21_s1, startE, N, a1, f]
theorem endedstand_ (n : Nat) (o : List (Nat × Nat)) (ho : o.length ≤ 10) (p r : Nat) (m : Sto) : callD fs (n + 3) 22 [.tup (o.map plD ++ [.tup [.int p, .int r]])] m = .ok (endS o).D m := by
  rw [e22]
  have N : p22.N.length = 1 := rfl
  rcases List.eq_nil_or_concat o with rfl | ⟨o', q, rfl⟩
  · simp [b22, b22_s1, startE, N, endS_nil, Stand.D]
  · obtain ⟨q1, q2⟩ := q
    simp only [List.concat_eq_append] at *
    rw [endS_snoc]
    have hl : o'.length ≤ 100 := by rw [List.length_append, List.length_singleton] at ho; omega
    have f := nextstand_ n (o'.map plD) (by rw [List.length_map]; exact hl) q1 q2 m
    have c1 := cut_last ((o' ++ [(q1, q2)]).map plD) (.tup [.int p, .int r])
    have hn : ¬ ((((o' ++ [(q1, q2)]).map plD ++ [D.tup [.int p, .int r]]).length : Int) = 1) := by simp; omega
    have e1 : (o' ++ [(q1, q2)]).map plD = o'.map plD ++ [.tup [.int q1, .int q2]] := by simp
    rw [e1] at c1 hn ⊢
    simp only [Stand.D, atD]
    have fc : (((q2 + 1 : Nat) : Nat) : Int) = (q2 : Int) + 1 := by omega
    rw [fc]
    generalize o'.map plD = X at *
    generalize hY : X ++ [D.tup [.int q1, .int q2]] = Y at *
    generalize Y ++ [D.tup [.int p, .int r]] = Z at *
    simp [b22, b22_s1, startE, N, hn, c1, f]
theorem deedof_ (n : Nat) {k np part many : Nat} (P : Prog) (hn : P.bx.Nodup) {row : Rw} (h : row.ok k P.bx.length np part many) (m : Sto) (d : Deed) (hd : (∃ b l, row = .set b l ∧ d = .set b l) ∨ (∃ b, row = .read b ∧ d = .read b)) :
    callD fs (n + 1) 23 [P.D, row.D P.bx P.pn] m = .ok d.D m := by
  rw [e23]
  have N : p23.N.length = 3 := rfl
  rcases hd with ⟨b, l, rfl, rfl⟩ | ⟨b, rfl, rfl⟩
  · have ix := index_strs hn h.1 m
    simp only [Prog.D, Prog.boxesD, Rw.D, Deed.D] at *
    generalize P.bx.map D.str = BX at *
    simp [b23, b23_s1, startE, N, ix, okFz]
  · have ix := index_strs hn (show b < P.bx.length from h) m
    simp only [Prog.D, Prog.boxesD, Rw.D, Deed.D] at *
    generalize P.bx.map D.str = BX at *
    simp [b23, b23_s2, startE, N, ix, okFz]
theorem exitsof_ (n : Nat) {k : Nat} {P : Prog} (h : P.Ok k) {s : Stand} (hs : s.ok P) (m : Sto) : callD fs (n + 4) 24 [P.D, s.D] m = .ok (.lst ((outs P s).map Out.D)) (m) := by
  rw [e24]
  have N : p24.N.length = 6 := rfl
  have nc : Nc s.D := (stand_sml h hs).nc (by have := h.k1; omega) h.k2 (by omega) (by have := h.k2; omega)
  cases s with
  | ended =>
    have ie := csr_in _ _ (in_ends nc m)
    simp only [Stand.D] at *
    generalize P.D = PD at *
    simp [b24, b24_s1, startE, N, ie, outs]
  | failed =>
    have ie := csr_in _ _ (in_ends nc m)
    simp only [Stand.D] at *
    generalize P.D = PD at *
    simp [b24, b24_s1, startE, N, ie, outs]
  | «at» o p r =>
    have ie := csr_in _ _ (in_ends nc m)
    obtain ⟨c, row, er⟩ := hs
    obtain ⟨rows, e1, e2, rk, _⟩ := row_ok h er
    have ol := chn_len h c
    have hX : (o.map plD).length ≤ 100 := by rw [List.length_map]; omega
    have ra := rowat_ (n + 2) h er m
    have nx := nextstand_ (n + 1) (o.map plD) hX p r m
    have mv := fun q : Nat => moved_ (n + 2) (o.map plD) hX p r q m
    have al := at_last (o.map plD) (.tup [.int p, .int r])
    have e0 : outs P (.at o p r) = outsR o p r row := by simp [outs, er]
    have fc : (((r + 1 : Nat) : Nat) : Int) = (r : Int) + 1 := by omega
    rw [e0]
    have S : b24 (callD fs (n + 3)) (startE p24.N.length [P.D, (Stand.at o p r).D]) m = (sSeq (b24_s4 (callD fs (n + 3))) (sSeq (sIf (mCmpT .Eq (mVar 4) (mC (.str "want"))) (b24_s5 (callD fs (n + 3))) sNx) (sSeq (sIf (mCmpT .Eq (mVar 4) (mC (.str "claim"))) (b24_s6 (callD fs (n + 3))) sNx) (sSeq (sIf (mCmpT .Eq (mVar 4) (mC (.str "test"))) (b24_s7 (callD fs (n + 3))) sNx) (sSeq (sIf (mCmpT .Eq (mVar 4) (mC (.str "either"))) (b24_s8 (callD fs (n + 3))) sNx) (sSeq (sIf (mCmpT .Eq (mVar 4) (mC (.str "jump"))) (b24_s9 (callD fs (n + 3))) sNx) (sSeq (sIf (mCmpT .Eq (mVar 4) (mC (.str "call"))) (b24_s10 (callD fs (n + 3))) sNx) (b24_s11 (callD fs (n + 3)))))))))) [some P.D, some (Stand.at o p r).D, some (.tup (o.map plD ++ [.tup [.int p, .int r]])), some (row.D P.bx P.pn), ((atI (match row.D P.bx P.pn with | .tup xs => xs | _ => []) 0)), none] m := by
      obtain ⟨w, l, hw⟩ := row_D_word P.bx P.pn row
      rw [hw] at ra ⊢
      simp only [Stand.D, atD] at *
      generalize o.map plD ++ [D.tup [.int p, .int r]] = Y at *
      generalize P.D = PD at *
      simp [b24, b24_s1, b24_s2, startE, N, ie, ra, al]
    rw [S]
    clear S
    simp only [Stand.D, atD] at *
    have ad : ∀ y : D, binS .Add (.tup (o.map plD ++ [.tup [.int p, .int r]])) (.tup [y]) m = some (.tup (o.map plD ++ [.tup [.int p, .int r], y]), m) := fun y => by
      rw [v_tupAdd m _ _ (by simp; omega)]; simp
    cases row with
    | set b l =>
      have dd := deedof_ (n + 2) P h.bn rk m (.set b l) (.inl ⟨b, l, rfl, rfl⟩)
      simp only [Rw.D, Deed.D, outsR, List.map_cons, List.map_nil, Out.D, ownI, Stand.D, atD, fc] at *
      generalize o.map plD ++ [D.tup [.int p, .int r]] = Y at *
      generalize P.D = PD at *
      simp [b24_s3, b24_s4, c_inT, inFl, isBase, eqFl, nx, dd]
    | read b =>
      have dd := deedof_ (n + 2) P h.bn rk m (.read b) (.inr ⟨b, rfl, rfl⟩)
      simp only [Rw.D, Deed.D, outsR, List.map_cons, List.map_nil, Out.D, ownI, Stand.D, atD, fc] at *
      generalize o.map plD ++ [D.tup [.int p, .int r]] = Y at *
      generalize P.D = PD at *
      simp [b24_s3, b24_s4, c_inT, inFl, isBase, eqFl, nx, dd]
    | want w =>
      simp only [Rw.D, outsR, List.map_cons, List.map_nil, Out.D, ownI, Deed.D, Stand.D, atD, fc] at *
      generalize o.map plD ++ [D.tup [.int p, .int r]] = Y at *
      generalize P.D = PD at *
      simp [b24_s4, b24_s5, c_inT, inFl, isBase, eqFl, nx]
    | claim w =>
      have ct := contrary_ (n + 2) rk h.b2 m
      simp only [Rw.D, outsR, List.map_cons, List.map_nil, Out.D, ownI, Deed.D, Stand.D, atD, fc] at *
      generalize o.map plD ++ [D.tup [.int p, .int r]] = Y at *
      generalize wsI (negW w) = NW at *
      generalize wsI w = OW at *
      generalize P.D = PD at *
      simp [b24_s4, b24_s6, c_inT, inFl, isBase, eqFl, nx, ct]
    | test w q =>
      have ct := contrary_ (n + 2) rk.1 h.b2 m
      have mq := mv q
      simp only [Rw.D, outsR, List.map_cons, List.map_nil, Out.D, ownI, Deed.D, Stand.D, atD, fc] at *
      generalize o.map plD ++ [D.tup [.int p, .int r]] = Y at *
      generalize wsI (negW w) = NW at *
      generalize wsI w = OW at *
      generalize P.D = PD at *
      simp [b24_s4, b24_s7, c_inT, inFl, isBase, eqFl, nx, ct, mq]
    | either rs =>
      have lc : ∀ x0 x1 x3 x4, lcL (Live ⟨rs.map (fun (r : Nat) => D.int r), none⟩) (.nm 5) mYes (mApN tupO (mCons (mC (.non)) (mCons (mC (.non)) (mCons (mCall (callD fs (n + 3)) 20 (mCons (mVar 2) (mCons (mVar 5) mNil)) []) mNil)))) [x0, x1, some (.tup (o.map plD ++ [.tup [.int p, .int r]])), x3, x4, none] (rs.map (fun (r : Nat) => D.int r)) [] m = .ok (.lst ((outsR o p r (.either rs)).map Out.D)) m := by
        intro x0 x1 x3 x4
        have := lc_map (p := .nm 5) (me := mApN tupO (mCons (mC (.non)) (mCons (mC (.non)) (mCons (mCall (callD fs (n + 3)) 20 (mCons (mVar 2) (mCons (mVar 5) mNil)) []) mNil)))) (r := [x0, x1, some (.tup (o.map plD ++ [.tup [.int p, .int r]])), x3, x4, none]) (m := m) (fun d => match d with
          | .int q => .tup [.non, .non, .tup [.str "at", .tup (o.map plD ++ [.tup [.int p, .int q]])]]
          | d => d) (it := rs.map (fun (r : Nat) => D.int r)) (ds := rs.map (fun (r : Nat) => D.int r)) (fun d hd => by
            obtain ⟨q, _, rfl⟩ := List.mem_map.mp hd
            have mq := mv q
            refine ⟨_, rfl, ?_⟩
            simp only
            generalize o.map plD ++ [D.tup [.int p, .int r]] = Y at *
            generalize D.tup [.str "at", .tup (o.map plD ++ [.tup [.int p, .int q]])] = Z at *
            simp [mq]) (by rw [List.length_map]; have := rk.2.1; omega)
        rw [this]
        simp only [outsR, List.map_map]
        rfl
      generalize (outsR o p r (.either rs)).map Out.D = OS at *
      simp only [Rw.D] at *
      generalize o.map plD ++ [D.tup [.int p, .int r]] = Y at *
      generalize rs.map (fun (r : Nat) => D.int r) = RS at *
      generalize P.D = PD at *
      simp [b24_s4, b24_s8, c_inT, inFl, isBase, eqFl, lc]
    | jump q =>
      have mq := mv q
      simp only [Rw.D, outsR, List.map_cons, List.map_nil, Out.D, ownI, Deed.D, Stand.D, atD] at *
      generalize o.map plD ++ [D.tup [.int p, .int r]] = Y at *
      generalize P.D = PD at *
      simp [b24_s4, b24_s9, c_inT, inFl, isBase, eqFl, mq]
    | call q =>
      have pn := partnums_ (n + 2) h m
      have dg : dGet (kvN 0 P.pn) (.str (sAt P.pn q)) = some (.int (q : Nat)) := by
        have := dGet_kvN (x := sAt P.pn q) (i := 0) (j := q) h.pd (by rw [List.getElem?_eq_getElem rk.2, sAt_eq rk.2])
        rwa [Nat.zero_add] at this
      have e3 : (o ++ [(p, r)]).map plD ++ [D.tup [.int q, .int 0]] = o.map plD ++ [.tup [.int p, .int r], .tup [.int q, .int 0]] := by simp
      have aq := ad (.tup [.int q, .int 0])
      simp only [Rw.D, outsR, List.map_cons (f := Out.D), List.map_nil, Out.D, ownI, Deed.D, Stand.D, atD] at *
      rw [show (((0 : Nat) : Nat) : Int) = 0 from rfl, e3]
      generalize o.map plD ++ [D.tup [.int p, .int r], .tup [.int q, .int 0]] = Z at *
      generalize o.map plD ++ [D.tup [.int p, .int r]] = Y at *
      generalize P.D = PD at *
      generalize kvN 0 P.pn = KV at *
      simp [b24_s4, b24_s10, c_inT, inFl, isBase, eqFl, pn, dg, aq]
    | fin =>
      have es := endedstand_ n o (by omega) p r m
      simp only [Rw.D, outsR, List.map_cons, List.map_nil, Out.D, ownI, Deed.D] at *
      generalize o.map plD ++ [D.tup [.int p, .int r]] = Y at *
      generalize (endS o).D = ES at *
      generalize P.D = PD at *
      simp [b24_s4, b24_s11, c_inT, inFl, isBase, eqFl, es]
/-- what a look leaves behind -/
abbrev looked2 (P : Prog) (m : Sto) : Sto := m ++ [.lst (P.bx.map .str), .lst (P.pn.map .str)]
theorem exits_ (n : Nat) {k : Nat} {P : Prog} (h : P.Ok k) {s : Stand} (hs : s.ok P) (m : Sto) : callD fs (n + 6) 25 [P.D, s.D] m = .ok (.lst ((outs P s).map Out.D)) (looked2 P m) := by
  rw [e25]
  have N : p25.N.length = 2 := rfl
  have nc : Nc s.D := (stand_sml h hs).nc (by have := h.k1; omega) h.k2 (by omega) (by have := h.k2; omega)
  have f1 := look_ n h m
  have f2 := isstand_of_ (n + 1) h s.D nc (looked2 P m)
  rw [standB_ok h hs] at f2
  have f3 := exitsof_ (n + 1) h hs (looked2 P m)
  have f1 : callD fs (n + 5) 13 [P.D] m = .ok .non (looked2 P m) := f1
  generalize looked2 P m = M at *
  generalize (outs P s).map Out.D = OS at *
  generalize s.D = SD at *
  generalize P.D = PD at *
  simp [b25, startE, N, f1, f2, f3]
theorem exits_no (n : Nat) {k : Nat} {P : Prog} (h : P.Ok k) {d : D} (nc : Nc d) (hd : standB P d = false) (m : Sto) : callD fs (n + 6) 25 [P.D, d] m = .exc 2 [] (looked2 P m) := by
  rw [e25]
  have N : p25.N.length = 2 := rfl
  have f1 := look_ n h m
  have f2 := isstand_of_ (n + 1) h d nc (looked2 P m)
  rw [hd] at f2
  have f1 : callD fs (n + 5) 13 [P.D] m = .ok .non (looked2 P m) := f1
  generalize looked2 P m = M at *
  generalize P.D = PD at *
  simp [b25, startE, N, f1, f2]


end K17

set_option Elab.async false
set_option linter.all false
set_option maxRecDepth 100000
set_option maxHeartbeats 8000000
namespace K17
open PySem PySem.Spec L2 DI
def Pool (m : Sto) (l : Nat) : Prop := ∃ a b : Int, m[l]? = some (.lst [.int a, .int b]) ∧ 0 ≤ a ∧ 0 ≤ b ∧ b < 2147483647
theorem take0 (n l : Nat) (k a b : Int) (m : Sto) (h : m[l]? = some (.lst [.int a, .int b])) (ha : 0 ≤ a) (hb : 0 ≤ b) (hb2 : b < 2147483647) (hk : 0 < k) (hk2 : k < 2147483648) :
    ∃ r a' b', callD fs (n + 1) 27 [.ref l, .int k] m = .ok (.int r) (m.set l (.lst [.int a', .int b'])) ∧ 0 ≤ r ∧ r < k ∧ 0 ≤ a' ∧ 0 ≤ b' ∧ b' < 2147483647 := by
  rw [e27]
  have hl : l < m.length := (List.getElem?_eq_some_iff.mp h).1
  have N : p27.N.length = 3 := rfl
  have x0 : ∀ c d : D, atI [c, d] 0 = some c := fun _ _ => rfl
  have x1 : ∀ c d : D, atI [c, d] 1 = some d := fun _ _ => rfl
  have i0 : ixN 2 0 = some 0 := rfl
  have i1 : ixN 2 1 = some 1 := rfl
  by_cases h0 : 0 < a
  · refine ⟨a % k, a / k, b, ?_, Int.emod_nonneg _ (by omega), Int.emod_lt_of_pos _ hk, Int.ediv_nonneg ha (by omega), hb, hb2⟩
    simp [b27, b27_i1, startE, N, x_ref _ _ _ h, x0, h0, v_modP _ _ _ hk, v_divP _ _ _ hk (by omega), set_ref _ _ _ _ h i0]
  · have h0 : a = 0 := by omega
    subst h0
    refine ⟨(((b * 48271 + 11) % 2147483647) * ((b * 48271 + 11) % 2147483647)) % 2147483629 / 64 % k, 0, (b * 48271 + 11) % 2147483647, ?_, Int.emod_nonneg _ (by omega), Int.emod_lt_of_pos _ hk, by omega, by omega, by omega⟩
    have hm : (m.set l (.lst [.int 0, .int ((b * 48271 + 11) % 2147483647)]))[l]? = some (.lst [.int 0, .int ((b * 48271 + 11) % 2147483647)]) := List.getElem?_set_self hl
    simp [b27, b27_s2, b27_s3, startE, N, x_ref _ _ _ h, x0, x1, v_mul _ b 48271 (by omega) (by omega), v_modP _ _ 2147483647 (by omega) , set_ref _ _ _ _ h i1, x_ref _ _ _ hm, v_mul _ ((b * 48271 + 11) % 2147483647) ((b * 48271 + 11) % 2147483647) (by omega) (by omega), v_modP _ _ 2147483629 (by omega), v_divP _ _ 64 (by omega) (by omega), v_modP _ _ k hk]
theorem take_ (n l : Nat) (k : Int) (m : Sto) (p : Pool m l) (hk : 0 < k) (hk2 : k < 2147483648) :
    ∃ r m', callD fs (n + 1) 27 [.ref l, .int k] m = .ok (.int r) m' ∧ 0 ≤ r ∧ r < k ∧ Pool m' l ∧ m'.length = m.length ∧ ∀ j, j ≠ l → m'[j]? = m[j]? := by
  obtain ⟨a, b, h, ha, hb, hb2⟩ := p
  obtain ⟨r, a', b', e, h1, h2, h3, h4, h5⟩ := take0 n l k a b m h ha hb hb2 hk hk2
  have hl : l < m.length := (List.getElem?_eq_some_iff.mp h).1
  exact ⟨r, _, e, h1, h2, ⟨a', b', List.getElem?_set_self hl, h3, h4, h5⟩, List.length_set, fun j hj => List.getElem?_set_ne (Ne.symm hj)⟩
theorem pool0 (n : Nat) (ns : List Int) (k : Nat) (hk : k < 64) (m : Sto) : ∃ a b, callD fs (n + 1) 26 [.lst (ns.map D.int), .int k] m = .ok (.ref m.length) (m ++ [.lst [.int a, .int b]]) ∧ 0 ≤ a ∧ 0 ≤ b ∧ b < 2147483647 := by
  rw [e26]
  have N : p26.N.length = 5 := rfl
  have t : (10 : Int) ^ (18 : Int).toNat = 1000000000000000000 := by decide
  have key : ∀ c : Int, ∃ a b, fin (RS.seq (RS.nx [some (D.lst (ns.map D.int)), some (D.int k), some (D.int c), none, none] m) (sSeq (b26_s2 (callD fs n)) (sSeq (b26_s3 (callD fs n)) (sSeq (b26_s4 (callD fs n)) (sRet (mApN newL (mCons (mVar 3) (mCons (mVar 4) mNil)))))))) = .ok (.ref m.length) (m ++ [.lst [.int a, .int b]]) ∧ 0 ≤ a ∧ 0 ≤ b ∧ b < 2147483647 := by
    intro c
    obtain ⟨x, hx, h0⟩ : ∃ x : Int, (if -1 - c > c then -1 - c else c) = x ∧ 0 ≤ x := ⟨_, rfl, by split <;> omega⟩
    by_cases h1 : x < 1000000000000000000
    · simp [b26_s2, b26_s3, b26_s4, hx, v_mul _ (x % 2147483629) 16807 (by omega) (by omega), v_mul _ 104729 (k : Int) (by omega) (by omega), v_modP _ _ 2147483629 (by omega), v_modP _ _ 2147483647 (by omega), v_pow _ 10 18 (by decide), t, h1, new_mk]
      refine ⟨_, _, ⟨rfl, rfl⟩, ?_, ?_, ?_⟩ <;> omega
    · simp [b26_s2, b26_s3, b26_s4, hx, v_mul _ (x % 2147483629) 16807 (by omega) (by omega), v_mul _ 104729 (k : Int) (by omega) (by omega), v_modP _ _ 2147483629 (by omega), v_modP _ _ 2147483647 (by omega), v_pow _ 10 18 (by decide), t, h1, new_mk]
      refine ⟨_, _, ⟨rfl, rfl⟩, ?_, ?_, ?_⟩ <;> omega
  by_cases h : k < ns.length
  · have ha : atI (ns.map D.int) (k : Int) = some (.int ns[k]) := at_nn _ _ (by simp [h])
    have := key ns[k]
    simpa [b26, b26_i1, startE, N, h, ha] using this
  · have := key 0
    simpa [b26, startE, N, h] using this

theorem pick {xs : List D} {n l : Nat} {m : Sto} (p : Pool m l) (hx : 0 < xs.length) (hx2 : xs.length < 1000) : ∃ r m' d, callD fs (n + 1) 27 [.ref l, .int xs.length] m = .ok (.int r) m' ∧ atI xs r = some d ∧ d ∈ xs ∧ Pool m' l ∧ m'.length = m.length ∧ ∀ j, j ≠ l → m'[j]? = m[j]? := by
  obtain ⟨r, m', e, h0, h1, p', hl, ho⟩ := take_ n l xs.length m p (by omega) (by omega)
  obtain ⟨d, a, b⟩ := at_mem h0 h1
  exact ⟨r, m', d, e, a, b, p', hl, ho⟩

/-! programs drawn -/
theorem pickF {xs : List D} {n l : Nat} {m : Sto} (p : Pool m l) (hx : 0 < xs.length) (hx2 : xs.length < 1000) : ∃ r m' d, callD fs (n + 1) 27 [.ref l, .int xs.length] m = .ok (.int r) m' ∧ atI xs r = some d ∧ d ∈ xs ∧ Pool m' l ∧ Fr l m m' := by
  obtain ⟨r, m', d, q1, q2, q3, q4, q5, q6⟩ := pick (n := n) p hx hx2
  exact ⟨r, m', d, q1, q2, q3, q4, Fr.of_take q5 q6⟩
theorem takeF (n l k : Nat) (m : Sto) (p : Pool m l) (hk : 0 < k) (hk2 : k < 2147483648) : ∃ (r : Nat) (m' : Sto), callD fs (n + 1) 27 [.ref l, .int k] m = .ok (.int r) m' ∧ r < k ∧ Pool m' l ∧ Fr l m m' := by
  obtain ⟨r, m', q1, q2, q3, q4, q5, q6⟩ := take_ n l k m p (by omega) (by omega)
  exact ⟨r.toNat, m', by rw [q1]; congr 2; omega, by omega, q4, Fr.of_take q5 q6⟩
theorem pool_lt {m : Sto} {l : Nat} (p : Pool m l) : l < m.length := by obtain ⟨a, b, h, _⟩ := p; exact (List.getElem?_eq_some_iff.mp h).1
theorem pool_set {m : Sto} {l j : Nat} {o : O} (p : Pool m l) (h : j ≠ l) : Pool (m.set j o) l := by
  obtain ⟨a, b, e, z⟩ := p
  exact ⟨a, b, by rw [List.getElem?_set_ne h]; exact e, z⟩
theorem pool_app {m X : Sto} {l : Nat} (p : Pool m l) : Pool (m ++ X) l := by
  have := pool_lt p
  obtain ⟨a, b, e, z⟩ := p
  exact ⟨a, b, by rw [List.getElem?_append_left this]; exact e, z⟩
def LineJ (l k L : Nat) (m0 : Sto) (ds : List D) (r : DI.Env) (mm : Sto) : Prop := ∃ bx c, r = [some (D.ref l), some (D.int k), some (D.ref L), bx] ∧ Pool mm l ∧ mm[L]? = some (O.lst ((c : List Int).map .int)) ∧ c.length + ds.length = k + 1 ∧ (∀ i ∈ c, i.natAbs < 10 ^ 2) ∧ Fr l m0 mm
abbrev drw1 : List D := [.int 0, .int 1, .int (-1), .int 2, .int (-3), .int 5, .int 10, .int (-7)]
abbrev drw2 : List D := [.int 0, .int 0, .int 1, .int 1, .int (-1), .int (-1), .int 2, .int (-3)]
theorem lineI_ (n l k : Nat) (hk : k < 20) (m : Sto) (p : Pool m l) : ∃ (c : List Int) (m' : Sto), callD fs (n + 2) 28 [.ref l, .int k] m = .ok (lnI c) m' ∧ c.length = k + 1 ∧ (∀ i ∈ c, i.natAbs < 10 ^ 2) ∧ Pool m' l ∧ Fr l m m' := by
  rw [e28]
  have N : p28.N.length = 4 := rfl
  have hl := pool_lt p
  obtain ⟨r, m1, d, q1, q2, q3, q4, q5⟩ := pickF (n := n) (xs := drw1) p (by decide) (by decide)
  have q1 : callD fs (n + 1) 27 [.ref l, .int 8] m = .ok (.int r) m1 := q1
  obtain ⟨i0, rfl, hi0⟩ : ∃ i : Int, d = .int i ∧ i.natAbs < 10 ^ 2 := by
    simp only [drw1, List.mem_cons, List.not_mem_nil, or_false] at q3
    rcases q3 with rfl | rfl | rfl | rfl | rfl | rfl | rfl | rfl <;> exact ⟨_, rfl, by decide⟩
  have hm1 := q5.le
  have st : ∀ d ds r mm, LineJ l k m1.length m (d :: ds) r mm → ∃ r1 r2 m2, bindP (.nm 3) d r = some r1 ∧ (b28_s2 (callD fs (n + 1)) r1 mm = .nx r2 m2 ∨ b28_s2 (callD fs (n + 1)) r1 mm = .ct r2 m2) ∧ LineJ l k m1.length m ds r2 m2 := by
    rintro d ds r mm ⟨bx, c, rfl, pm, hm, hlen, hsm, fr⟩
    obtain ⟨r2, m2, e, w1, w2, w3, w4, w5⟩ := pickF (n := n) (xs := drw2) pm (by decide) (by decide)
    have w1 : callD fs (n + 1) 27 [.ref l, .int 8] mm = .ok (.int r2) m2 := w1
    obtain ⟨i, rfl, hi⟩ : ∃ i : Int, e = .int i ∧ i.natAbs < 10 ^ 2 := by
      simp only [drw2, List.mem_cons, List.not_mem_nil, or_false] at w3
      rcases w3 with rfl | rfl | rfl | rfl | rfl | rfl | rfl | rfl <;> exact ⟨_, rfl, by decide⟩
    have ne : m1.length ≠ l := by omega
    have hL := (List.getElem?_eq_some_iff.mp hm).1
    have hm2 := (w5.st _ hL ne).trans hm
    have il : isLst (.ref m1.length) mm = true := by simp [isLst, hm]
    have hl2 : m1.length < m2.length := (List.getElem?_eq_some_iff.mp hm2).1
    have ap : appO (.ref m1.length) [.int i] m2 = some (.non, m2.set m1.length (.lst ((c ++ [i]).map .int))) := by
      have : c.length < lim := by unfold lim; rw [List.length_cons] at hlen; omega
      simp [appO, hm2, this]
    have run : b28_s2 (callD fs (n + 1)) [some (D.ref l), some (D.int k), some (D.ref m1.length), some d] mm = .nx [some (D.ref l), some (D.int k), some (D.ref m1.length), some d] (m2.set m1.length (.lst ((c ++ [i]).map .int))) := by
      generalize (c ++ [i]).map D.int = C at *
      simp [b28_s2, il, w1, w2, ap]
    refine ⟨_, _, _, rfl, .inl run, some d, c ++ [i], rfl, pool_set w4 ne, List.getElem?_set_self hl2, ?_, fun x hx => ?_, (fr.trans w5).set (by omega)⟩
    · rw [List.length_append, List.length_singleton]; rw [List.length_cons] at hlen; omega
    · rcases List.mem_append.mp hx with hx | hx
      · exact hsm x hx
      · rw [List.mem_singleton] at hx; subst hx; exact hi
  obtain ⟨r3, m3, f1, bx, c, rfl, f2, f3, f4, f5, f6⟩ := for_left (it := intRange 0 k) (ds := intRange 0 k) (r := [some (D.ref l), some (D.int k), some (D.ref m1.length), none]) (m := m1 ++ [.lst [.int i0]]) (LineJ l k m1.length m) st ⟨none, [i0], rfl, pool_app q4, by simp, by simp [intRange]; omega, by simpa using hi0, q5.trans (Fr.app _ _ _)⟩
  have rg : rngI [.int (k : Int)] = some ⟨intRange 0 k, none⟩ := rngN (by omega)
  refine ⟨c, m3, ?_, by simpa using f4, f5, f2, f6⟩
  have tr := tuple_ref _ _ f3
  simp only [lnI]
  generalize c.map D.int = C at *
  simp [b28, b28_s1, startE, N, q1, q2, rg, f1, tr]
theorem lwish_ (n l k : Nat) (hk : k < 20) (m : Sto) (p : Pool m l) : ∃ (w : Wsh) (m' : Sto), callD fs (n + 3) 29 [.ref l, .int k] m = .ok (wsI w) m' ∧ WOk 2 k w ∧ Pool m' l ∧ Fr l m m' := by
  rw [e29]
  have N : p29.N.length = 2 := rfl
  obtain ⟨r, m1, d, q1, q2, q3, q4, q5⟩ := pickF (n := n + 1) (xs := [.str "least", .str "least", .str "above"]) p (by decide) (by decide)
  have q1 : callD fs (n + 2) 27 [.ref l, .int 3] m = .ok (.int r) m1 := q1
  obtain ⟨c, m2, f1, f2, f3, f4, f5⟩ := lineI_ n l k hk m1 q4
  obtain ⟨w, rfl, hw⟩ : ∃ w : Str, d = .str w ∧ (w = "least" ∨ w = "above") := by
    simp only [List.mem_cons, List.not_mem_nil, or_false] at q3
    rcases q3 with rfl | rfl | rfl <;> first | exact ⟨_, rfl, .inl rfl⟩ | exact ⟨_, rfl, .inr rfl⟩
  refine ⟨(w, c), m2, ?_, ⟨hw, f2, f3⟩, f4, q5.trans f5⟩
  simp only [wsI, lnI] at *
  generalize c.map D.int = C at *
  simp [b29, b29_s1, startE, N, q1, q2, f1]
def RoadI (l many cnt : Nat) (m0 : Sto) (ds acc : List D) (mm : Sto) : Prop := ∃ rs : List Nat, acc = rs.map (fun (r : Nat) => D.int r) ∧ (∀ q ∈ rs, q < many) ∧ rs.length + ds.length = cnt ∧ cnt ≤ 4 ∧ Pool mm l ∧ Fr l m0 mm
theorem lrow_ (n l : Nat) {bx pn : List Str} {part many : Nat} (hb1 : 1 ≤ bx.length) (hb2 : bx.length ≤ 8) (hm : 1 ≤ many) (hm2 : many ≤ 24) (hp : pn.length ≤ 6) (hpk : ∀ x ∈ pn, NmOk x) (m : Sto) (p : Pool m l) :
    ∃ (row : Rw) (m' : Sto), callD fs (n + 4) 30 [.ref l, .lst (bx.map .str), .lst ((pn.drop (part + 1)).map .str), .int many] m = .ok (row.D bx pn) m' ∧ row.ok 2 bx.length pn.length part many ∧ Pool m' l ∧ Fr l m m' := by
  rw [e30]
  have N : p30.N.length = 8 := rfl
  obtain ⟨r, m1, d, q1, q2, q3, q4, q5⟩ := pickF (n := n + 2) (xs := [.str "set", .str "set", .str "read", .str "want", .str "claim", .str "claim", .str "test", .str "either", .str "jump", .str "call"]) p (by decide) (by decide)
  have q1 : callD fs (n + 3) 27 [.ref l, .int 10] m = .ok (.int r) m1 := q1
  obtain ⟨b, m2, t1, t2, t3, t4⟩ := takeF (n + 2) l bx.length m1 q4 (by omega) (by omega)
  have ab : atI (bx.map D.str) (b : Int) = some (.str (sAt bx b)) := by
    have := at_strs (xs := bx) (r := b) (by omega) (by omega)
    rwa [Int.toNat_natCast] at this
  have lB : (bx.map D.str).length = bx.length := List.length_map ..
  have ne := nil_strs (xs := pn.drop (part + 1)) (by rw [List.length_drop]; omega) (fun x hx => hpk x (List.mem_of_mem_drop hx))
  have lH : ((pn.drop (part + 1)).map D.str).length = (pn.drop (part + 1)).length := List.length_map ..
  have F12 := q5.trans t4
  have rd : ∀ {X : DI.D} {M : Sto}, X = .tup [.str "read", .str (sAt bx b)] → Pool M l → Fr l m M → ∃ (row : Rw) (m' : Sto), R.ok X M = .ok (row.D bx pn) m' ∧ row.ok 2 bx.length pn.length part many ∧ Pool m' l ∧ Fr l m m' := fun e p f => ⟨.read b, _, by rw [e]; rfl, t2, p, f⟩
  simp only [List.mem_cons, List.not_mem_nil, or_false] at q3
  have setC : d = .str "set" → ∃ (row : Rw) (m' : Sto), fin (b30 (callD fs (n + 3)) (startE p30.N.length [.ref l, .lst (bx.map .str), .lst ((pn.drop (part + 1)).map .str), .int many]) m) = .ok (row.D bx pn) m' ∧ row.ok 2 bx.length pn.length part many ∧ Pool m' l ∧ Fr l m m' := by
    rintro rfl
    obtain ⟨c, m3, f1, f2, f3, f4, f5⟩ := lineI_ (n + 1) l bx.length (by omega) m2 t3
    refine ⟨.set b c, m3, ?_, ⟨t2, f2, f3⟩, f4, F12.trans f5⟩
    simp only [Rw.D, lnI] at *
    generalize c.map D.int = C at *
    generalize (pn.drop (part + 1)).map D.str = BH at *
    generalize bx.map D.str = BX at *
    simp [b30, b30_s1, b30_s2, startE, N, lB, q1, q2, t1, ab, f1]
  have claimC : ∀ w : Str, (w = "want" ∨ w = "claim") → d = .str w → ∃ (row : Rw) (m' : Sto), fin (b30 (callD fs (n + 3)) (startE p30.N.length [.ref l, .lst (bx.map .str), .lst ((pn.drop (part + 1)).map .str), .int many]) m) = .ok (row.D bx pn) m' ∧ row.ok 2 bx.length pn.length part many ∧ Pool m' l ∧ Fr l m m' := by
    rintro w hw rfl
    obtain ⟨c, m3, f1, f2, f4, f5⟩ := lwish_ n l bx.length (by omega) m2 t3
    rcases hw with rfl | rfl
    · refine ⟨.want c, m3, ?_, f2, f4, F12.trans f5⟩
      simp only [Rw.D] at *
      generalize wsI c = C at *
      generalize (pn.drop (part + 1)).map D.str = BH at *
      generalize bx.map D.str = BX at *
      simp [b30, b30_s1, b30_s3, b30_s4, startE, N, lB, q1, q2, t1, ab, f1]
    · refine ⟨.claim c, m3, ?_, f2, f4, F12.trans f5⟩
      simp only [Rw.D] at *
      generalize wsI c = C at *
      generalize (pn.drop (part + 1)).map D.str = BH at *
      generalize bx.map D.str = BX at *
      simp [b30, b30_s1, b30_s3, b30_s4, startE, N, lB, q1, q2, t1, ab, f1]
  rcases q3 with rfl | rfl | rfl | rfl | rfl | rfl | rfl | rfl | rfl | rfl
  · exact setC rfl
  · exact setC rfl
  · clear setC claimC
    refine ⟨.read b, m2, ?_, t2, t3, F12⟩
    simp only [Rw.D] at *
    generalize (pn.drop (part + 1)).map D.str = BH at *
    generalize bx.map D.str = BX at *
    simp [b30, b30_s1, b30_s4, b30_s8, b30_s10, startE, N, lB, q1, q2, t1, ab]
  · exact claimC _ (.inl rfl) rfl
  · exact claimC _ (.inr rfl) rfl
  · exact claimC _ (.inr rfl) rfl
  · clear setC claimC
    obtain ⟨c, m3, f1, f2, f4, f5⟩ := lwish_ n l bx.length (by omega) m2 t3
    obtain ⟨q, m4, g1, g2, g3, g4⟩ := takeF (n + 2) l many m3 f4 (by omega) (by omega)
    refine ⟨.test c q, m4, ?_, ⟨f2, g2⟩, g3, (F12.trans f5).trans g4⟩
    simp only [Rw.D] at *
    generalize wsI c = C at *
    generalize (pn.drop (part + 1)).map D.str = BH at *
    generalize bx.map D.str = BX at *
    simp [b30, b30_s1, b30_s4, b30_s5, startE, N, lB, q1, q2, t1, ab, f1, g1]
  · clear setC claimC
    obtain ⟨q, m4, g1, g2, g3, g4⟩ := takeF (n + 2) l 3 m2 t3 (by omega) (by omega)
    have g1 : callD fs (n + 3) 27 [.ref l, .int 3] m2 = .ok (.int q) m4 := g1
    have rg : rngI [.int (2 + (q : Int))] = some ⟨intRange 0 (2 + q), none⟩ := by
      have := rngN (k := 2 + q) (by omega)
      rwa [show ((2 + q : Nat) : Int) = 2 + (q : Int) by omega] at this
    have lc : ∀ x1 x2 x4 x5 x6, ∃ acc2 m5, lcL (Live ⟨intRange 0 (2 + q), none⟩) (.nm 7) mYes (mCall (callD fs (n + 3)) 27 (mCons (mVar 0) (mCons (mVar 3) mNil)) []) [some (.ref l), x1, x2, some (.int many), x4, x5, x6, none] (intRange 0 (2 + q)) [] m4 = .ok (.lst acc2) m5 ∧ RoadI l many (2 + q) m [] acc2 m5 := by
      intro x1 x2 x4 x5 x6
      refine lc_left (RoadI l many (2 + q) m) (fun d ds acc mm hI => ?_) ⟨[], rfl, by simp, by simp [intRange], by omega, g3, F12.trans g4⟩
      obtain ⟨rs, rfl, h1, h2, h3, h4, h5⟩ := hI
      obtain ⟨z, m6, w1, w2, w3, w4⟩ := takeF (n + 2) l many mm h4 (by omega) (by omega)
      rw [List.length_cons] at h2
      refine ⟨by rw [List.length_map]; unfold lim; omega, _, rfl, .inl ⟨mm, .int z, m6, rfl, by simp [w1], rs ++ [z], by simp, fun y hy => ?_, by rw [List.length_append, List.length_singleton]; omega, h3, w3, h5.trans w4⟩⟩
      rcases List.mem_append.mp hy with hy | hy
      · exact h1 y hy
      · rw [List.mem_singleton] at hy; subst hy; exact w2
    obtain ⟨acc2, m5, l1, rs, rfl, l2, l3, l4, l5, l6⟩ := lc (some (.lst (bx.map .str))) (some (.lst ((pn.drop (part + 1)).map .str))) (some (.int bx.length)) (some (.str "either")) (some (.str (sAt bx b)))
    rw [List.length_nil, Nat.add_zero] at l3
    refine ⟨.either rs, m5, ?_, ⟨by omega, by omega, l2⟩, l5, l6⟩
    simp only [Rw.D] at *
    generalize rs.map (fun (r : Nat) => D.int r) = RS at *
    generalize (pn.drop (part + 1)).map D.str = BH at *
    generalize bx.map D.str = BX at *
    simp [b30, b30_s1, b30_s4, b30_s6, startE, N, lB, q1, q2, t1, ab, g1, rg, l1]
  · clear setC claimC
    by_cases hj : 1 < many
    · obtain ⟨q, m4, g1, g2, g3, g4⟩ := takeF (n + 2) l many m2 t3 (by omega) (by omega)
      have hj : (1 : Int) < many := by omega
      refine ⟨.jump q, m4, ?_, g2, g3, F12.trans g4⟩
      simp only [Rw.D] at *
      generalize (pn.drop (part + 1)).map D.str = BH at *
      generalize bx.map D.str = BX at *
      simp [b30, b30_s1, b30_s4, b30_s7, b30_s8, startE, N, lB, q1, q2, t1, ab, g1, hj]
    · have hj : ¬ (1 : Int) < many := by omega
      refine ⟨.read b, m2, ?_, t2, t3, F12⟩
      simp only [Rw.D] at *
      generalize (pn.drop (part + 1)).map D.str = BH at *
      generalize bx.map D.str = BX at *
      simp [b30, b30_s1, b30_s4, b30_s8, b30_s10, startE, N, lB, q1, q2, t1, ab, hj]
  · clear setC claimC
    cases hi : (pn.drop (part + 1)).isEmpty with
    | true =>
      rw [hi] at ne
      refine ⟨.read b, m2, ?_, t2, t3, F12⟩
      simp only [Rw.D] at *
      generalize (pn.drop (part + 1)).map D.str = BH at *
      generalize bx.map D.str = BX at *
      simp [b30, b30_s1, b30_s4, b30_s8, b30_s10, startE, N, lB, q1, q2, t1, ab, ne]
    | false =>
      rw [hi] at ne
      have hpos : 0 < (pn.drop (part + 1)).length := by
        rw [List.isEmpty_eq_false_iff_exists_mem] at hi
        obtain ⟨x, hx⟩ := hi
        exact List.length_pos_of_mem hx
      obtain ⟨q, m4, g1, g2, g3, g4⟩ := takeF (n + 2) l (pn.drop (part + 1)).length m2 t3 hpos (by rw [List.length_drop]; omega)
      have ac : atI ((pn.drop (part + 1)).map D.str) (q : Int) = some (.str (sAt pn (part + 1 + q))) := by
        have := at_strs (xs := pn.drop (part + 1)) (r := q) (by omega) (by omega)
        rw [this, Int.toNat_natCast, sAt_eq g2]
        rw [List.length_drop] at g2
        rw [sAt_eq (show part + 1 + q < pn.length by omega), List.getElem_drop]
      refine ⟨.call (part + 1 + q), m4, ?_, ⟨by omega, by rw [List.length_drop] at g2; omega⟩, g3, F12.trans g4⟩
      simp only [Rw.D] at *
      generalize (pn.drop (part + 1)).length = LH at *
      generalize (pn.drop (part + 1)).map D.str = BH at *
      generalize bx.map D.str = BX at *
      simp [b30, b30_s1, b30_s4, b30_s8, b30_s9, b30_s10, startE, N, lB, lH, q1, q2, t1, ab, ne, g1, ac]


end K17

set_option Elab.async false
set_option linter.all false
set_option maxRecDepth 100000
set_option maxHeartbeats 8000000
namespace K17
open PySem PySem.Spec L2 DI
def ProgI (l F : Nat) (m0 : Sto) (bx pn : List Str) (x1 x2 x3 : Option D) (ds : List D) (r : DI.Env) (mm : Sto) : Prop :=
  ∃ (i : Nat) (rs : List (List Rw)) (x7 x8 x9 x10 x11 x12 : Option D), ds = enF i ((pn.drop i).map .str) ∧ rs.length = i ∧ i ≤ pn.length ∧ (∀ j rows, rs[j]? = some rows → RowsOk 2 bx.length pn.length j rows) ∧ r = [some (.ref l), x1, x2, x3, some (.lst (bx.map .str)), some (.lst (pn.map .str)), some (.ref F), x7, x8, x9, x10, x11, x12] ∧
    mm[F]? = some (.lst (((pn.take i).zip rs).map (partD bx pn))) ∧ Pool mm l ∧ Fr l m0 mm ∧ F < mm.length
def RowsI (l many cnt : Nat) (bx pn : List Str) (part : Nat) (m0 : Sto) (ds acc : List D) (mm : Sto) : Prop := ∃ rs : List Rw, acc = rowsD bx pn rs ∧ (∀ q ∈ rs, q.ok 2 bx.length pn.length part many) ∧ rs.length + ds.length = cnt ∧ cnt ≤ 24 ∧ Pool mm l ∧ Fr l m0 mm
theorem lpart_ (n l F : Nat) {bx pn : List Str} {most : Nat} (hb1 : 1 ≤ bx.length) (hb2 : bx.length ≤ 8) (ho : 1 ≤ most) (ho2 : most ≤ 24) (hp : pn.length ≤ 6) (hpk : ∀ x ∈ pn, NmOk x) (x1 x3 : Option D) (m0 : Sto) (hF : m0.length ≤ F) (hlF : l < m0.length) : ∀ d ds r mm, ProgI l F m0 bx pn x1 (some (.int most)) x3 (d :: ds) r mm →
    ∃ r1 r2 m2, bindP (.tp [.nm 7, .nm 8]) d r = some r1 ∧ (b31_l7 (callD fs (n + 4)) r1 mm = .nx r2 m2 ∨ b31_l7 (callD fs (n + 4)) r1 mm = .ct r2 m2) ∧ ProgI l F m0 bx pn x1 (some (.int most)) x3 ds r2 m2 := by
  rintro d ds r mm ⟨i, rs, x7, x8, x9, x10, x11, x12, ed, hrs, hil, hok, rfl, hF1, hP, hFr, hF2⟩
  obtain ⟨x, rest, hx, rfl, rfl⟩ := enF_some ed
  have hi : i < pn.length := by
    rcases Nat.lt_or_ge i pn.length with z | z
    · exact z
    · rw [List.drop_eq_nil_of_le z] at hx; cases hx
  rw [List.drop_eq_getElem_cons hi, List.map_cons] at hx
  obtain ⟨rfl, rfl⟩ : x = .str pn[i] ∧ rest = (pn.drop (i + 1)).map .str := by cases hx; exact ⟨rfl, rfl⟩
  have nF : F ≠ l := by omega
  -- how many
  obtain ⟨q, m1, a1, a2, a3, a4⟩ := takeF (n + 3) l most mm hP (by omega) (by omega)
  have cut : cutD (pn.map D.str) (some ((i : Int) + 1)) none = (pn.drop (i + 1)).map .str := by
    have := cutN_from (pn.map D.str) (i + 1)
    rw [show ((i : Int) + 1) = ((i + 1 : Nat) : Int) by omega, this, List.map_drop]
  have rg : rngI [.int ((1 + (q : Int)) - 1)] = some ⟨intRange 0 q, none⟩ := by
    have := rngN (k := q) (by omega)
    rwa [show ((q : Nat) : Int) = (1 + (q : Int)) - 1 by omega] at this
  -- rows
  have lc : ∃ acc2 m5, lcL (Live ⟨intRange 0 q, none⟩) (.nm 12) mYes (mCall (callD fs (n + 4)) 30 (mCons (mVar 0) (mCons (mVar 4) (mCons (mSl (mVar 5) (mPart (mAp2 (binS .Add) (mVar 7) (mC (.int 1)))) (mNoP)) (mCons (mVar 9) mNil)))) []) [some (.ref l), x1, some (.int most), x3, some (.lst (bx.map .str)), some (.lst (pn.map .str)), some (.ref F), some (.int i), some (.str pn[i]), some (.int (1 + (q : Int))), x10, x11, none] (intRange 0 q) [] m1 = .ok (.lst acc2) m5 ∧ RowsI l (1 + q) q bx pn i mm [] acc2 m5 := by
    refine lc_left (RowsI l (1 + q) q bx pn i mm) (fun d ds acc μ hI => ?_) ⟨[], rfl, by simp, by simp [intRange], by omega, a3, a4⟩
    obtain ⟨rs', rfl, h1, h2, h3, h4, h5⟩ := hI
    obtain ⟨row, m6, w1, w2, w3, w4⟩ := lrow_ n l (bx := bx) (pn := pn) (part := i) (many := 1 + q) hb1 hb2 (by omega) (by omega) hp hpk μ h4
    rw [List.length_cons] at h2
    refine ⟨by rw [List.length_map]; unfold lim; omega, _, rfl, .inl ⟨μ, row.D bx pn, m6, rfl, ?_, rs' ++ [row], by simp, fun y hy => ?_, by rw [List.length_append, List.length_singleton]; omega, h3, w3, h5.trans w4⟩⟩
    · have e1 : (((1 + q : Nat) : Nat) : Int) = 1 + (q : Int) := by omega
      rw [e1] at w1
      generalize row.D bx pn = RD at *
      generalize (pn.drop (i + 1)).map D.str = BH at *
      generalize bx.map D.str = BX at *
      generalize pn.map D.str = PN at *
      simp [cut, w1]
    · rcases List.mem_append.mp hy with hy | hy
      · exact h1 y hy
      · rw [List.mem_singleton] at hy; subst hy; exact w2
  obtain ⟨acc2, m2, b1, rows, rfl, b2, b3, b4, b5, b6⟩ := lc
  rw [List.length_nil, Nat.add_zero] at b3
  -- the last one
  obtain ⟨q1, m3, c1, c2, c3, c4⟩ := takeF (n + 3) l (1 + q) m2 b5 (by omega) (by omega)
  obtain ⟨q2, m4, d1, d2, d3, d4⟩ := takeF (n + 3) l (1 + q) m3 c3 (by omega) (by omega)
  have F24 := (b6.trans c4).trans d4
  have e1 : (((1 + q : Nat) : Nat) : Int) = 1 + (q : Int) := by omega
  rw [e1] at c1 d1
  obtain ⟨r4, m5, y, f1, f2, f3, f4, f5⟩ := pickF (n := n + 3) (xs := [Rw.D bx pn .fin, Rw.D bx pn .fin, Rw.D bx pn (.jump q1), Rw.D bx pn (.either [q2, 0])]) d3 (by simp) (by simp)
  have f1 : callD fs (n + 4) 27 [.ref l, .int 4] m4 = .ok (.int r4) m5 := f1
  obtain ⟨la, rfl, la1, la2⟩ : ∃ la : Rw, y = la.D bx pn ∧ la.last = true ∧ la.ok 2 bx.length pn.length i (1 + q) := by
    simp only [List.mem_cons, List.not_mem_nil, or_false] at f3
    rcases f3 with rfl | rfl | rfl | rfl
    · exact ⟨.fin, rfl, rfl, trivial⟩
    · exact ⟨.fin, rfl, rfl, trivial⟩
    · exact ⟨.jump q1, rfl, rfl, c2⟩
    · exact ⟨.either [q2, 0], rfl, rfl, by simp, by simp, fun z hz => by
        simp only [List.mem_cons, List.not_mem_nil, or_false] at hz
        rcases hz with rfl | rfl <;> omega⟩
  have F25 := F24.trans f5
  have hm4F : m4[F]? = mm[F]? := F24.st F hF2 nF
  have hm5F : m5[F]? = mm[F]? := F25.st F hF2 nF
  have il : isLst (.ref F) m4 = true := by simp [isLst, hm4F, hF1]
  have hl5 : F < m5.length := Nat.lt_of_lt_of_le hF2 F25.le
  have rk : RowsOk 2 bx.length pn.length i (rows ++ [la]) := by
    have hL : (rows ++ [la]).length = 1 + q := by rw [List.length_append, List.length_singleton]; omega
    refine ⟨by omega, by omega, fun z hz => ?_, fun j z hz hj => ?_⟩
    · rw [hL]
      rcases List.mem_append.mp hz with hz | hz
      · exact b2 z hz
      · rw [List.mem_singleton] at hz; subst hz; exact la2
    · have : j = rows.length := by omega
      subst this
      simp at hz; subst hz; exact la1
  have zp : ((pn.take (i + 1)).zip (rs ++ [rows ++ [la]])).map (partD bx pn) = ((pn.take i).zip rs).map (partD bx pn) ++ [.tup [.str pn[i], .lst (rowsD bx pn rows ++ [la.D bx pn])]] := by
    rw [List.take_succ_eq_append_getElem hi, List.zip_append (by rw [List.length_take]; omega)]
    simp
  have ad : ∀ μ, binS .Add (.lst (rowsD bx pn rows)) (.lst [la.D bx pn]) μ = some (.lst (rowsD bx pn rows ++ [la.D bx pn]), μ) := fun μ => v_lstAdd μ _ _ (by simp; omega)
  have ap : appO (.ref F) [.tup [.str pn[i], .lst (rowsD bx pn rows ++ [la.D bx pn])]] m5 = some (.non, m5.set F (.lst (((pn.take (i + 1)).zip (rs ++ [rows ++ [la]])).map (partD bx pn)))) := by
    have : (((pn.take i).zip rs).map (partD bx pn)).length < lim := by rw [List.length_map, List.length_zip, List.length_take]; unfold lim; omega
    rw [zp]
    simp only [appO, hm5F, hF1]
    rw [if_pos this]
  refine ⟨_, _, m5.set F (.lst (((pn.take (i + 1)).zip (rs ++ [rows ++ [la]])).map (partD bx pn))), rfl, .inl ?_, i + 1, rs ++ [rows ++ [la]], some (.int i), some (.str pn[i]), some (.int (1 + (q : Int))), some (.lst (rowsD bx pn rows)), some (.lst [Rw.D bx pn .fin, Rw.D bx pn .fin, Rw.D bx pn (.jump q1), Rw.D bx pn (.either [q2, 0])]), x12, rfl, by simp [hrs], by omega, fun j z hz => ?_, rfl, List.getElem?_set_self hl5, pool_set f4 nF, (hFr.trans F25).set hF, by rw [List.length_set]; exact hl5⟩
  · have f1' := f1
    generalize la.D bx pn = LA at *
    simp only [Rw.D, List.map_cons, List.map_nil] at f2 ⊢
    rw [show (((0 : Nat) : Nat) : Int) = 0 from rfl] at f2 ⊢
    generalize ((pn.take (i + 1)).zip (rs ++ [rows ++ [la]])).map (partD bx pn) = NEW at *
    generalize rowsD bx pn rows = RO at *
    generalize bx.map D.str = BX at *
    generalize pn.map D.str = PN at *
    simp [b31_l7, b31_s3, b31_s4, b31_s5, b31_s6, a1, rg, b1, c1, d1, il, f1', f2, ad, ap]
  · by_cases hj : j < rs.length
    · rw [List.getElem?_append_left hj] at hz; exact hok j z hz
    · have hj' := (List.getElem?_eq_some_iff.mp hz).1
      rw [List.length_append, List.length_singleton] at hj'
      have : j = rs.length := by omega
      subst this
      simp at hz; subst hz
      rw [hrs]; exact rk
theorem lprog_ (n l : Nat) {sz most np : Nat} (h1 : 1 ≤ sz) (h2 : sz ≤ 8) (h3 : 1 ≤ most) (h4 : most ≤ 24) (h5 : 1 ≤ np) (h6 : np ≤ 6) (m : Sto) (p : Pool m l) :
    ∃ (P : Prog) (m' : Sto), callD fs (n + 5) 31 [.ref l, .int sz, .int most, .int np] m = .ok P.D m' ∧ P.Ok 2 ∧ P.bx.length ≤ sz ∧ P.pn.length ≤ np ∧ Pool m' l ∧ Fr l m m' := by
  rw [e31]
  have N : p31.N.length = 13 := rfl
  obtain ⟨q, m1, a1, a2, a3, a4⟩ := takeF (n + 3) l sz m p (by omega) (by omega)
  obtain ⟨bx, b1, b2, b3, b4⟩ := pre_names allBx_ok (r := (q : Int)) (by omega) (by show (q : Int) < 8; omega)
  obtain ⟨s, m2, c1, c2, c3, c4⟩ := takeF (n + 3) l np m1 a3 (by omega) (by omega)
  obtain ⟨pn, d1, d2, d3, d4⟩ := pre_names allPn_ok (r := (s : Int)) (by omega) (by show (s : Int) < 6; omega)
  have F2 := a4.trans c4
  have hl := pool_lt c3
  obtain ⟨r2, m3, f, i, rs, x7, x8, x9, x10, x11, x12, g1, g2, gi, g3, rfl, g4, g5, g6, g7⟩ := for_left (it := enF 0 (pn.map .str)) (ds := enF 0 (pn.map .str)) (m := m2 ++ [.lst []]) (r := [some (.ref l), some (.int sz), some (.int most), some (.int np), some (.lst (bx.map .str)), some (.lst (pn.map .str)), some (.ref m2.length), none, none, none, none, none, none]) _ (lpart_ n l m2.length (bx := bx) (pn := pn) (most := most) (by omega) (by omega) h3 h4 (by omega) d4 (some (.int sz)) (some (.int np)) m2 (Nat.le_refl _) hl)
    ⟨0, [], none, none, none, none, none, none, rfl, rfl, by simp, fun j rows z => by simp at z, rfl, by simp, pool_app c3, Fr.app _ _ _, by simp⟩
  have hip : pn.length ≤ i := by
    have := enF_none g1
    have := congrArg List.length this
    rw [List.length_map, List.length_drop] at this
    simp at this; omega
  have hn : i = pn.length := by omega
  subst hn
  rw [List.take_length] at g4
  refine ⟨⟨bx, pn, rs⟩, m3.set m2.length .dead, ?_, ⟨by decide, by decide, by simp only; omega, by simp only; omega, b3, b4, by simp only; omega, by simp only; omega, d3, d4, g2, g3⟩, by simp only; omega, by simp only; omega, pool_set g5 (by omega), (F2.trans g6).set F2.le⟩
  have fz := frz_ref _ _ _ g4
  simp only [Prog.D, Prog.boxesD, Prog.partsL]
  simp only [allBx, allPn, List.map_cons, List.map_nil] at b1 d1
  generalize (pn.zip rs).map (partD bx pn) = PL at *
  generalize bx.map D.str = BX at *
  generalize pn.map D.str = PN at *
  simp [b31, b31_s1, b31_s2, startE, N, a1, b1, c1, d1, enumD_F, f, fz]


end K17

set_option Elab.async false
set_option linter.all false
set_option maxRecDepth 100000
set_option maxHeartbeats 8000000
namespace K17
open PySem PySem.Spec L2 DI
/-! the law's own exits -/
theorem lmoved_ (n : Nat) (X : List D) (hX : X.length ≤ 100) (p r q : Int) (m : Sto) : callD fs (n + 1) 32 [.tup (X ++ [.tup [.int p, .int r]]), .int q] m = .ok (.tup [.str "at", .tup (X ++ [.tup [.int p, .int q]])]) m := by
  rw [e32]
  have N : p32.N.length = 2 := rfl
  have ad : ∀ y : D, binS .Add (.tup X) (.tup [y]) m = some (.tup (X ++ [y]), m) := fun y => v_tupAdd m _ _ (by simp; omega)
  have a1 := at_last X (.tup [.int p, .int r])
  have c1 := cut_last X (.tup [.int p, .int r])
  generalize X ++ [.tup [.int p, .int r]] = Y at *
  simp [b32, b32_s1, startE, N, a1, c1, ad]
theorem lexits_ (n : Nat) {k : Nat} {P : Prog} (h : P.Ok k) {s : Stand} (hs : s.ok P) (m : Sto) : callD fs (n + 2) 33 [P.D, s.D] m = .ok (.lst ((outs P s).map Out.D)) m := by
  rw [e33]
  have N : p33.N.length = 16 := rfl
  cases s with
  | ended =>
    simp only [Stand.D] at *
    generalize P.D = PD at *
    simp [b33, startE, N, outs]
  | failed =>
    simp only [Stand.D] at *
    generalize P.D = PD at *
    simp [b33, startE, N, outs]
  | «at» o p r =>
    obtain ⟨c, row, er⟩ := hs
    obtain ⟨rows, e1, e2, rk, _⟩ := row_ok h er
    have ol := chn_len h c
    have hX : (o.map plD).length ≤ 100 := by rw [List.length_map]; omega
    have mv := fun q : Nat => lmoved_ n (o.map plD) hX p r q m
    have al := at_last (o.map plD) (.tup [.int p, .int r])
    have e0 : outs P (.at o p r) = outsR o p r row := by simp [outs, er]
    have fc : (((r + 1 : Nat) : Nat) : Int) = (r : Int) + 1 := by omega
    have nx := mv (r + 1)
    rw [fc] at nx
    have a1 : atI P.partsL (p : Int) = some (.tup [.str (sAt P.pn p), .lst (rowsD P.bx P.pn rows)]) := at_nn _ _ (parts_at h e1)
    have a2 : atI (rowsD P.bx P.pn rows) (r : Int) = some (row.D P.bx P.pn) := at_nn _ _ (by rw [List.getElem?_map, e2]; rfl)
    rw [e0]
    have S : b33 (callD fs (n + 1)) (startE p33.N.length [P.D, (Stand.at o p r).D]) m = (sSeq (sIf (mCmpT .Eq (mAp2 ixO (mVar 3) (mC (.int 0))) (mC (.str "set"))) (b33_s2 (callD fs (n + 1))) sNx) (sSeq (sIf (mCmpT .Eq (mAp2 ixO (mVar 3) (mC (.int 0))) (mC (.str "read"))) (b33_s3 (callD fs (n + 1))) sNx) (sSeq (b33_s9 (callD fs (n + 1))) (sSeq (sIf (mCmpT .Eq (mAp2 ixO (mVar 3) (mC (.int 0))) (mC (.str "either"))) (b33_s10 (callD fs (n + 1))) sNx) (sSeq (sIf (mCmpT .Eq (mAp2 ixO (mVar 3) (mC (.int 0))) (mC (.str "jump"))) (b33_s11 (callD fs (n + 1))) sNx) (sSeq (b33_s14 (callD fs (n + 1))) (sSeq (sIf (mCmpT .Eq (mApN lenO (mCons (mVar 2) mNil)) (mC (.int 1))) (b33_s15 (callD fs (n + 1))) sNx) (b33_s16 (callD fs (n + 1)))))))))) [some P.D, some (Stand.at o p r).D, some (.tup (o.map plD ++ [.tup [.int p, .int r]])), some (row.D P.bx P.pn), some (.tup [.str "at", .tup (o.map plD ++ [.tup [.int p, .int (r + 1)]])]), some P.boxesD, some (.lst P.partsL), some (.int p), some (.int r), none, none, none, none, none, none, none] m := by
      simp only [Stand.D, atD, Prog.D, Prog.boxesD] at *
      generalize o.map plD ++ [D.tup [.int p, .int (r + 1)]] = Y2 at *
      generalize o.map plD ++ [D.tup [.int p, .int r]] = Y at *
      generalize row.D P.bx P.pn = RD at *
      generalize P.bx.map D.str = BX at *
      generalize rowsD P.bx P.pn rows = RW at *
      generalize P.partsL = PL at *
      simp [b33, b33_s1, startE, N, al, a1, a2, nx]
    rw [S]
    clear S a1 a2
    simp only [Stand.D, atD] at *
    have ad : ∀ y : D, binS .Add (.tup (o.map plD ++ [.tup [.int p, .int r]])) (.tup [y]) m = some (.tup (o.map plD ++ [.tup [.int p, .int r], y]), m) := fun y => by
      rw [v_tupAdd m _ _ (by simp; omega)]; simp
    have wsC : ∀ w : Wsh, WOk k P.bx.length w → ∀ (x0 x1 x2 x3 x4 x5 x6 x7 x8 x9 x10 x11 : Option D), lcL (Live ⟨w.2.map D.int, none⟩) (.nm 12) mYes (mAp2 (binS .Sub) (mC (.int 0)) (mVar 12)) [x0, x1, x2, x3, x4, x5, x6, x7, x8, x9, x10, x11, none, none, none, none] (w.2.map D.int) [] m = .ok (.lst (((negW w).2).map D.int)) m := by
      intro w hw x0 x1 x2 x3 x4 x5 x6 x7 x8 x9 x10 x11
      have hw2 := hw.2.1
      have hb := h.b2
      have := lc_map (p := .nm 12) (me := mAp2 (binS .Sub) (mC (.int 0)) (mVar 12)) (r := [x0, x1, x2, x3, x4, x5, x6, x7, x8, x9, x10, x11, none, none, none, none]) (m := m) negD (it := w.2.map D.int) (ds := w.2.map D.int) (fun d hd => by
        obtain ⟨c, _, rfl⟩ := List.mem_map.mp hd
        exact ⟨_, rfl, by simp [negD]⟩) (by rw [List.length_map]; omega)
      rw [this, neg_map]; rfl
    have sg : ∀ w : Wsh, WOk k P.bx.length w → ((w.1 == Str.ofString "least") = true ∧ (negW w).1 = "above") ∨ ((w.1 == Str.ofString "least") = false ∧ (negW w).1 = "least") := by
      rintro w ⟨hw, _⟩
      rcases hw with hw | hw
      · exact .inl ⟨by rw [hw]; simp, by simp [negW, othW, hw]⟩
      · exact .inr ⟨by rw [hw]; simp, by simp [negW, othW, hw]⟩
    cases row with
    | set b l =>
      have ix := index_strs h.bn rk.1 m
      simp only [Rw.D, Deed.D, outsR, List.map_cons, List.map_nil, Out.D, ownI, Stand.D, atD, fc, Prog.boxesD] at *
      generalize P.D = PD at *
      generalize P.bx.map D.str = BX at *
      simp [b33_s2, ix, okFz]
    | read b =>
      have ix := index_strs h.bn (show b < P.bx.length from rk) m
      simp only [Rw.D, Deed.D, outsR, List.map_cons, List.map_nil, Out.D, ownI, Stand.D, atD, fc, Prog.boxesD] at *
      generalize P.D = PD at *
      generalize P.bx.map D.str = BX at *
      simp [b33_s3, ix, okFz]
    | want w =>
      have lc := wsC w rk
      have m0 := fun y : D => v_lstMul m y 0 (by decide) (by decide)
      simp only [Rw.D, outsR, List.map_cons, List.map_nil, Out.D, ownI, Deed.D, Stand.D, atD, fc, wsI, lnI] at *
      have s1 := sg w rk
      generalize (negW w).2.map D.int = NL at *
      generalize (negW w).1 = NW at *
      obtain ⟨w, l⟩ := w
      simp only at *
      generalize l.map D.int = L at *
      generalize P.D = PD at *
      rcases s1 with ⟨s1, rfl⟩ | ⟨s1, rfl⟩ <;> simp [b33_s4, b33_s5, b33_s7, b33_i8, b33_s9, c_inL, inFl, isBase, eqFl, lc, s1, intO, m0, v_lstAdd]
    | claim w =>
      have lc := wsC w rk
      have m0 := fun y : D => v_lstMul m y 1 (by decide) (by decide)
      simp only [Rw.D, outsR, List.map_cons, List.map_nil, Out.D, ownI, Deed.D, Stand.D, atD, fc, wsI, lnI] at *
      have s1 := sg w rk
      generalize (negW w).2.map D.int = NL at *
      generalize (negW w).1 = NW at *
      obtain ⟨w, l⟩ := w
      simp only at *
      generalize l.map D.int = L at *
      generalize P.D = PD at *
      rcases s1 with ⟨s1, rfl⟩ | ⟨s1, rfl⟩ <;> simp [b33_s4, b33_s5, b33_s7, b33_i8, b33_s9, c_inL, inFl, isBase, eqFl, lc, s1, intO, m0, v_lstAdd]
    | test w q =>
      have lc := wsC w rk.1
      have m0 := fun y : D => v_lstMul m y 1 (by decide) (by decide)
      have mq := mv q
      simp only [Rw.D, outsR, List.map_cons, List.map_nil, Out.D, ownI, Deed.D, Stand.D, atD, fc, wsI, lnI] at *
      have s1 := sg w rk.1
      generalize (negW w).2.map D.int = NL at *
      generalize (negW w).1 = NW at *
      obtain ⟨w, l⟩ := w
      simp only at *
      generalize l.map D.int = L at *
      generalize o.map plD ++ [D.tup [.int p, .int (r + 1)]] = Y2 at *
      generalize o.map plD ++ [D.tup [.int p, .int q]] = Y3 at *
      generalize o.map plD ++ [D.tup [.int p, .int r]] = Y at *
      generalize P.D = PD at *
      rcases s1 with ⟨s1, rfl⟩ | ⟨s1, rfl⟩ <;> simp [b33_s4, b33_s5, b33_i6, b33_s7, b33_i8, b33_s9, c_inL, inFl, isBase, eqFl, lc, s1, intO, m0, mq, v_lstAdd]
    | either rs =>
      have lc : ∀ x0 x1 x3 x4 x5 x6 x7 x8 x9 x10 x11 x12, lcL (Live ⟨rs.map (fun (r : Nat) => D.int r), none⟩) (.nm 13) mYes (mApN tupO (mCons (mC (.non)) (mCons (mC (.non)) (mCons (mCall (callD fs (n + 1)) 32 (mCons (mVar 2) (mCons (mVar 13) mNil)) []) mNil)))) [x0, x1, some (.tup (o.map plD ++ [.tup [.int p, .int r]])), x3, x4, x5, x6, x7, x8, x9, x10, x11, x12, none, none, none] (rs.map (fun (r : Nat) => D.int r)) [] m = .ok (.lst ((outsR o p r (.either rs)).map Out.D)) m := by
        intro x0 x1 x3 x4 x5 x6 x7 x8 x9 x10 x11 x12
        have := lc_map (p := .nm 13) (me := mApN tupO (mCons (mC (.non)) (mCons (mC (.non)) (mCons (mCall (callD fs (n + 1)) 32 (mCons (mVar 2) (mCons (mVar 13) mNil)) []) mNil)))) (r := [x0, x1, some (.tup (o.map plD ++ [.tup [.int p, .int r]])), x3, x4, x5, x6, x7, x8, x9, x10, x11, x12, none, none, none]) (m := m) (fun d => match d with
          | .int q => .tup [.non, .non, .tup [.str "at", .tup (o.map plD ++ [.tup [.int p, .int q]])]]
          | d => d) (it := rs.map (fun (r : Nat) => D.int r)) (ds := rs.map (fun (r : Nat) => D.int r)) (fun d hd => by
            obtain ⟨q, _, rfl⟩ := List.mem_map.mp hd
            have mq := mv q
            refine ⟨_, rfl, ?_⟩
            simp only
            generalize o.map plD ++ [D.tup [.int p, .int r]] = Y at *
            generalize D.tup [.str "at", .tup (o.map plD ++ [.tup [.int p, .int q]])] = Z at *
            simp [mq]) (by rw [List.length_map]; have := rk.2.1; omega)
        rw [this]
        simp only [outsR, List.map_map]
        rfl
      generalize (outsR o p r (.either rs)).map Out.D = OS at *
      simp only [Rw.D] at *
      generalize o.map plD ++ [D.tup [.int p, .int r]] = Y at *
      generalize rs.map (fun (r : Nat) => D.int r) = RS at *
      generalize P.D = PD at *
      simp [b33_s9, b33_s10, c_inL, inFl, isBase, eqFl, lc]
    | jump q =>
      have mq := mv q
      simp only [Rw.D, outsR, List.map_cons, List.map_nil, Out.D, ownI, Deed.D, Stand.D, atD] at *
      generalize o.map plD ++ [D.tup [.int p, .int q]] = Y3 at *
      generalize o.map plD ++ [D.tup [.int p, .int r]] = Y at *
      generalize P.D = PD at *
      simp [b33_s9, b33_s11, c_inL, inFl, isBase, eqFl, mq]
    | call q =>
      have beh : P.partsL.map (fun d => match d with | .tup (.str x :: _) => .str x | d => d) = P.pn.map D.str := by
        unfold Prog.partsL
        rw [List.map_map, show ((fun d => match d with | D.tup (.str x :: _) => D.str x | d => d) ∘ partD P.bx P.pn) = D.str ∘ Prod.fst from rfl, ← List.map_map, List.map_fst_zip (by rw [h.len]; omega)]
      have lc : ∀ x0 x1 x2 x3 x4 x5 x7 x8 x9 x10 x11 x12 x13, lcL (Live ⟨P.partsL, none⟩) (.tp [.nm 14, .nm 15]) mYes (mVar 14) [x0, x1, x2, x3, x4, x5, some (.lst P.partsL), x7, x8, x9, x10, x11, x12, x13, none, none] P.partsL [] m = .ok (.lst (P.pn.map D.str)) m := by
        intro x0 x1 x2 x3 x4 x5 x7 x8 x9 x10 x11 x12 x13
        rw [← beh]
        refine lc_map _ (fun d hd => ?_) (by rw [parts_len h]; have := h.p2; omega)
        unfold Prog.partsL at hd
        obtain ⟨y, _, rfl⟩ := List.mem_map.mp hd
        exact ⟨_, rfl, by simp⟩
      have ix := index_strs h.pd rk.2 m
      have e3 : (o ++ [(p, r)]).map plD ++ [D.tup [.int q, .int 0]] = o.map plD ++ [.tup [.int p, .int r], .tup [.int q, .int 0]] := by simp
      have aq := ad (.tup [.int q, .int 0])
      simp only [Rw.D, outsR, List.map_cons (f := Out.D), List.map_nil, Out.D, ownI, Deed.D, Stand.D, atD] at *
      rw [show (((0 : Nat) : Nat) : Int) = 0 from rfl, e3]
      generalize o.map plD ++ [D.tup [.int p, .int r], .tup [.int q, .int 0]] = Z at *
      generalize o.map plD ++ [D.tup [.int p, .int r]] = Y at *
      generalize P.D = PD at *
      generalize P.partsL = PL at *
      generalize P.pn.map D.str = PN at *
      simp [b33_s9, b33_s12, b33_s13, b33_s14, c_inL, inFl, isBase, eqFl, lc, ix, okFz, aq]
    | fin =>
      simp only [Rw.D, outsR, List.map_cons, List.map_nil, Out.D, ownI, Deed.D] at *
      rcases List.eq_nil_or_concat o with rfl | ⟨o', q, rfl⟩
      · simp [b33_s9, b33_s14, b33_s15, c_inL, inFl, isBase, eqFl, endS_nil, Stand.D]
      · obtain ⟨q1, q2⟩ := q
        simp only [List.concat_eq_append] at *
        rw [endS_snoc]
        have hl : o'.length ≤ 100 := by rw [List.length_append, List.length_singleton] at ol; omega
        have f := lmoved_ n (o'.map plD) (by rw [List.length_map]; exact hl) q1 q2 (q2 + 1) m
        have c1 := cut_last ((o' ++ [(q1, q2)]).map plD) (.tup [.int p, .int r])
        have hn : ¬ ((((o' ++ [(q1, q2)]).map plD ++ [D.tup [.int p, .int r]]).length : Int) = 1) := by simp; omega
        have e1 : (o' ++ [(q1, q2)]).map plD = o'.map plD ++ [.tup [.int q1, .int q2]] := by simp
        have a2 : atI ((o' ++ [(q1, q2)]).map plD ++ [D.tup [.int p, .int r]]) (-2) = some (.tup [.int q1, .int q2]) := by
          rw [e1, List.append_assoc]; exact at_last2 _ _ _
        rw [e1] at c1 hn a2 ⊢
        clear nx mv al ad
        simp only [Stand.D, atD]
        have fc : (((q2 + 1 : Nat) : Nat) : Int) = (q2 : Int) + 1 := by omega
        rw [fc]
        generalize o'.map plD = X at *
        generalize hY : X ++ [D.tup [.int q1, .int q2]] = Y at *
        generalize Y ++ [D.tup [.int p, .int r]] = Z at *
        generalize P.D = PD at *
        simp [b33_s9, b33_s14, b33_s16, c_inL, inFl, isBase, eqFl, hn, c1, a2, f]


end K17

set_option Elab.async false
set_option linter.all false
set_option maxRecDepth 100000
set_option maxHeartbeats 8000000
namespace K17
open PySem PySem.Spec L2 DI
theorem isstand_ (n : Nat) {k : Nat} {P : Prog} (h : P.Ok k) (d : D) (hd : Nc d) (m : Sto) : callD fs (n + 6) 19 [P.D, d] m = .ok (.bl (standB P d)) (looked2 P m) := by
  rw [e19]
  have N : p19.N.length = 2 := rfl
  have f1 : callD fs (n + 5) 13 [P.D] m = .ok .non (looked2 P m) := look_ n h m
  have f2 := isstand_of_ (n + 1) h d hd (looked2 P m)
  generalize looked2 P m = M at *
  generalize P.D = PD at *
  simp [b19, startE, N, f1, f2]


end K17

set_option Elab.async false
set_option linter.all false
set_option maxRecDepth 100000
set_option maxHeartbeats 8000000
namespace K17
open PySem PySem.Spec L2 DI
theorem wDs_filter (k : Nat) (f : D → Bool) : ∀ xs : List D, wDs k (xs.filter f) ≤ wDs k xs
  | [] => by simp
  | x :: xs => by
    have := wDs_filter k f xs
    cases h : f x with
    | true => rw [List.filter_cons_of_pos h, wDs_cons, wDs_cons]; omega
    | false => rw [List.filter_cons_of_neg (by simp [h]), wDs_cons]; omega
theorem Nc_filter {xs : List D} (h : Nc (.tup xs)) (f : D → Bool) : Nc (.lst (xs.filter f)) := by
  obtain ⟨k, k1, k2, h1, h2, h3⟩ := h
  rw [okD_tup] at h1; rw [hD_tup] at h2; rw [wD_tup] at h3
  refine ⟨k, k1, k2, ?_, ?_, ?_⟩
  · rw [okD_lst]; exact okDs_all.mpr fun d hd => okDs_all.mp h1 d (List.mem_filter.mp hd).1
  · rw [hD_lst]
    have := hDs_le (B := hDs xs) fun d (hd : d ∈ xs.filter f) => hD_mem (List.mem_filter.mp hd).1
    omega
  · rw [wD_lst]; have := wDs_filter k f xs; omega
theorem nil_nc : Nc (.lst []) := ⟨1, by decide, by decide, by simp, by simp, by simp⟩
theorem ne_nil {xs : List D} (h : Nc (.lst xs)) : cmpB .NotEq (.lst xs) (.lst []) = some (!xs.isEmpty) := by
  rw [cNe_nc h nil_nc]; cases xs <;> simp
theorem filter_emp (f : D → Bool) (xs : List D) : (xs.filter fun d => !f d).isEmpty = xs.all f := by
  rw [Bool.eq_iff_iff]
  simp [List.isEmpty_iff, List.filter_eq_nil_iff, List.all_eq_true]
theorem lisplace_ (n : Nat) {k : Nat} {P : Prog} (h : P.Ok k) (d : D) (hd : Nc d) (m : Sto) : callD fs (n + 1) 34 [P.D, d] m = .ok (.bl (placeB P d)) m := by
  rw [e34]
  have N : p34.N.length = 3 := rfl
  have hz := hd.fz
  have hL := parts_len h
  cases d with
  | tup xs =>
    obtain ⟨h1, h2⟩ := hd.tup
    match xs, h1, hd, hz with
    | [], _, hd, hz => simp [b34, b34_s1, startE, N, isi_tup _ _ hz, isTupD, placeB]
    | [a], _, hd, hz => simp [b34, b34_s1, startE, N, isi_tup _ _ hz, isTupD, placeB]
    | a :: b :: c :: r, _, hd, hz =>
      have : ¬ ((r.length : Int) + 1 + 1 + 1 = 2) := by omega
      simp [b34, b34_s1, startE, N, isi_tup _ _ hz, isTupD, placeB, this]
    | [a, b], h1, hd, hz =>
      have za := (h1 a (by simp)).fz
      have zb := (h1 b (by simp)).fz
      have lc := lc_pure (p := .nm 2) (mc := mOrT (mNotT (mTru (mApN isiO (mCons (mVar 2) (mCons (mC (.ty "int")) mNil))))) (mTru (mApN isiO (mCons (mVar 2) (mCons (mC (.ty "bool")) mNil))))) (me := mVar 2) (r := [some P.D, some (.tup [a, b]), none]) (m := m) (fun d => !isIntD d) (fun d => d) (it := [a, b]) (ds := [a, b]) (acc := []) (fun d hd => by
        have hf : isFz d = true := by
          simp only [List.mem_cons, List.not_mem_nil, or_false] at hd
          rcases hd with rfl | rfl
          · exact za
          · exact zb
        refine ⟨_, rfl, ?_, fun _ => by simp⟩
        simp [isi_int _ _ hf, isi_bool _ _ hf]
        cases d <;> simp [isIntD, isBlD]) (by unfold lim; simp)
      have ne := ne_nil (Nc_filter hd fun d => !isIntD d)
      rw [filter_emp] at ne
      rw [List.nil_append, List.map_id'] at lc
      generalize [a, b].filter (fun d => !isIntD d) = FL at *
      have nI : ¬ (isIntD a = true ∧ isIntD b = true) → placeB P (.tup [a, b]) = false := fun z => by
        cases a <;> cases b <;> simp [isIntD] at z <;> simp [placeB]
      by_cases hi : isIntD a = true ∧ isIntD b = true
      · obtain ⟨ia, ib⟩ := hi
        obtain ⟨p, rfl⟩ : ∃ p, a = .int p := by cases a <;> simp [isIntD] at ia; exact ⟨_, rfl⟩
        obtain ⟨r, rfl⟩ : ∃ r, b = .int r := by cases b <;> simp [isIntD] at ib; exact ⟨_, rfl⟩
        simp only [List.all_cons, List.all_nil, isIntD, Bool.and_self, Bool.not_true] at ne
        simp only [Prog.D] at *
        by_cases c1 : 0 ≤ p
        · by_cases c2 : p < P.pn.length
          · obtain ⟨rows, e1⟩ : ∃ rows, P.rs[p.toNat]? = some rows := ⟨_, List.getElem?_eq_getElem (by rw [h.len]; omega)⟩
            have a1 : atI P.partsL p = some (.tup [.str (sAt P.pn p.toNat), .lst (rowsD P.bx P.pn rows)]) := at_int c1 (parts_at h e1)
            have rn : rowsN P p = (rows.length : Int) := by simp [rowsN, e1]
            have rl : (rowsD P.bx P.pn rows).length = rows.length := by simp
            simp only [placeB, rn]
            generalize P.partsL = PL at *
            generalize rowsD P.bx P.pn rows = RW at *
            by_cases c3 : 0 ≤ r
            · simp [b34, b34_s1, b34_s2, b34_s3, startE, N, isi_tup _ _ hz, isTupD, lc, ne, c1, c2, c3, hL, a1, rl]
            · simp [b34, b34_s1, b34_s2, b34_s3, startE, N, isi_tup _ _ hz, isTupD, lc, ne, c1, c2, c3, hL]
          · generalize P.partsL = PL at *
            simp [b34, b34_s1, b34_s2, b34_s3, startE, N, isi_tup _ _ hz, isTupD, lc, ne, c1, c2, hL, placeB]
        · generalize P.partsL = PL at *
          simp [b34, b34_s1, b34_s2, b34_s3, startE, N, isi_tup _ _ hz, isTupD, lc, ne, c1, placeB]
      · rw [nI hi]
        have na : [a, b].all isIntD = false := by
          rw [Bool.eq_false_iff]
          intro z
          simp only [List.all_cons, List.all_nil, Bool.and_true, Bool.and_eq_true] at z
          exact hi z
        rw [na] at ne
        generalize P.D = PD at *
        simp [b34, b34_s1, b34_s2, startE, N, isi_tup _ _ hz, isTupD, lc, ne]
  | _ => simp [b34, b34_s1, startE, N, isi_tup _ _ hz, isTupD, placeB]
/-- the loop over neighbours -/
theorem dueloop_ (n : Nat) {k : Nat} {P : Prog} (h : P.Ok k) (it : List D) (x1 x2 x6 x7 x8 : Option D) (m : Sto) : ∀ (ps : List (Nat × Nat)) (x4 x5 : Option D), (∀ a ∈ ps, ∃ row, P.row a.1 a.2 = some row) →
    ∃ y4 y5, forL (Live ⟨it, none⟩) (.tp [.nm 4, .nm 5]) (b35_s6 (callD fs n)) (zipD (ps.map plD) ((ps.drop 1).map plD)) [some P.D, x1, x2, some (.lst (P.pn.map .str)), x4, x5, x6, x7, x8] m = if chN P ps = true then .nx [some P.D, x1, x2, some (.lst (P.pn.map .str)), y4, y5, x6, x7, x8] m else .ret (.bl false) m := by
  intro ps
  induction ps with
  | nil => intro x4 x5 _; exact ⟨x4, x5, by simp [zipD, for_nil, chN]⟩
  | cons a ps ih =>
    intro x4 x5 hp
    cases ps with
    | nil => exact ⟨x4, x5, by simp [zipD, for_nil, chN]⟩
    | cons b ps =>
      obtain ⟨row, er⟩ := hp a (by simp)
      obtain ⟨rowb, eb⟩ := hp b (by simp)
      obtain ⟨y4, y5, f2⟩ := ih (some (plD a)) (some (plD b)) (fun c hc => hp c (List.mem_cons_of_mem _ hc))
      have zc : zipD ((a :: b :: ps).map plD) (((a :: b :: ps).drop 1).map plD) = .tup [plD a, plD b] :: zipD ((b :: ps).map plD) (((b :: ps).drop 1).map plD) := by simp [zipD]
      have bd : b35_s6 (callD fs n) [some P.D, x1, x2, some (.lst (P.pn.map .str)), some (plD a), some (plD b), x6, x7, x8] m = if callB P a b.1 = true then .nx [some P.D, x1, x2, some (.lst (P.pn.map .str)), some (plD a), some (plD b), x6, x7, x8] m else .ret (.bl false) m := by
        obtain ⟨a1, a2⟩ := a
        obtain ⟨b1, b2⟩ := b
        obtain ⟨rows, e1, e2, rk, _⟩ := row_ok h er
        obtain ⟨rowsb, eb1, _⟩ := row_ok h eb
        have hb1 : b1 < P.pn.length := by rw [← h.len]; exact (List.getElem?_eq_some_iff.mp eb1).1
        have q1 : atI P.partsL (a1 : Int) = some (.tup [.str (sAt P.pn a1), .lst (rowsD P.bx P.pn rows)]) := at_nn _ _ (parts_at h e1)
        have q2 : atI (rowsD P.bx P.pn rows) (a2 : Int) = some (row.D P.bx P.pn) := at_nn _ _ (by rw [List.getElem?_map, e2]; rfl)
        have q3 : atI (P.pn.map D.str) (b1 : Int) = some (.str (sAt P.pn b1)) := by
          have := at_strs (xs := P.pn) (r := b1) (by omega) (by omega)
          rwa [Int.toNat_natCast] at this
        have er : P.row a1 a2 = some row := er
        have nc1 : Nc (row.D P.bx P.pn) := row_nc h e1 (List.mem_of_getElem? e2)
        have nc2 : Nc (D.tup [.str "call", .str (sAt P.pn b1)]) := ((Sml.lit (k := 2) "call" 4 (by decide)).tup2 (Sml.nm (h.pk _ (sAt_mem hb1)))).nc (by decide) (by decide) (by decide) (by decide)
        have ne := cNe_nc nc1 nc2
        have key : dEq (row.D P.bx P.pn) (D.tup [.str "call", .str (sAt P.pn b1)]) = callB P (a1, a2) b1 := by
          simp only [callB, er]
          cases row with
          | call c =>
            have hc := rk.2
            simp only [Rw.D, dEq_tup, dEqs_cons, dEq_str, dEqs_nil, Bool.and_true, ofS_beq, decide_true, Bool.true_and]
            rw [Bool.eq_iff_iff, beq_iff_eq, beq_iff_eq, sAt_eq hc, sAt_eq hb1]
            exact ⟨fun z => (List.getElem_inj h.pd).mp z, fun z => by subst z; rfl⟩
          | _ => simp [Rw.D]
        rw [key] at ne
        simp only [plD, Prog.D] at *
        generalize row.D P.bx P.pn = RD at *
        generalize rowsD P.bx P.pn rows = RW at *
        generalize P.partsL = PL at *
        generalize P.pn.map D.str = PN at *
        cases hc : callB P (a1, a2) b1 <;> rw [hc] at ne <;> simp [b35_s6, q1, q2, q3, ne]
      rw [zc, for_cons]
      simp only [bp_tp, bps_cons, bps_nil, bp_nm, Option.bind_some, List.set_cons_succ, List.set_cons_zero, bd]
      by_cases hc : callB P a b.1 = true
      · refine ⟨y4, y5, ?_⟩
        simp only [hc, if_true, f2, chN, Bool.true_and]
      · refine ⟨x4, x5, ?_⟩
        simp only [hc, if_false, chN]
        simp
theorem lit1_nc (s : String) (h : s.toList.length ≤ 10) : Nc (D.tup [.str (Str.ofString s)]) := ((Sml.lit (k := 2) s 10 h).tup1).nc (by decide) (by decide) (by decide) (by decide)
theorem due_ (n : Nat) {k : Nat} {P : Prog} (h : P.Ok k) (d : D) (hd : Nc d) (m : Sto) : callD fs (n + 2) 35 [P.D, d] m = .ok (.bl (standB P d)) m := by
  rw [e35]
  have N : p35.N.length = 9 := rfl
  have hz := hd.fz
  have q1 := cEq_nc hd (lit1_nc "ended" (by decide))
  have q2 := cEq_nc hd (lit1_nc "failed" (by decide))
  cases d with
  | tup xs =>
    obtain ⟨h1, h2⟩ := hd.tup
    by_cases e1 : dEq (.tup xs) (.tup [.str "ended"]) = true
    · have sb : standB P (.tup xs) = true := by
        match xs, e1 with
        | .str w :: rest, e1 =>
          rw [dEq_tup, dEqs_cons, dEq_str, Bool.and_eq_true, beq_iff_eq] at e1
          obtain ⟨rfl, e1⟩ := e1
          have : rest = [] := by cases rest <;> simp at e1 <;> rfl
          subst this
          simp [standB]
        | [], e1 => simp at e1
        | .non :: _, e1 | .bl _ :: _, e1 | .int _ :: _, e1 | .tup _ :: _, e1 | .lst _ :: _, e1 | .dct _ :: _, e1 | .ref _ :: _, e1 | .fn _ :: _, e1 | .cls _ :: _, e1 | .ty _ :: _, e1 | .exc _ _ :: _, e1 => simp [dEq] at e1
      rw [e1] at q1
      rw [sb]
      generalize P.D = PD at *
      simp [b35, b35_s2, b35_i1, startE, N, q1, isi_tup _ _ hz, isTupD]
    have e1 : dEq (.tup xs) (.tup [.str "ended"]) = false := by simpa using e1
    by_cases e2 : dEq (.tup xs) (.tup [.str "failed"]) = true
    · have sb : standB P (.tup xs) = true := by
        match xs, e2 with
        | .str w :: rest, e2 =>
          rw [dEq_tup, dEqs_cons, dEq_str, Bool.and_eq_true, beq_iff_eq] at e2
          obtain ⟨rfl, e2⟩ := e2
          have : rest = [] := by cases rest <;> simp at e2 <;> rfl
          subst this
          simp [standB]
        | [], e1 => simp at e1
        | .non :: _, e1 | .bl _ :: _, e1 | .int _ :: _, e1 | .tup _ :: _, e1 | .lst _ :: _, e1 | .dct _ :: _, e1 | .ref _ :: _, e1 | .fn _ :: _, e1 | .cls _ :: _, e1 | .ty _ :: _, e1 | .exc _ _ :: _, e1 => simp [dEq] at e1
      rw [e1] at q1
      rw [e2] at q2
      rw [sb]
      generalize P.D = PD at *
      simp [b35, b35_s2, b35_i1, startE, N, q1, q2, isi_tup _ _ hz, isTupD]
    have e2 : dEq (.tup xs) (.tup [.str "failed"]) = false := by simpa using e2
    rw [e1] at q1
    rw [e2] at q2
    match xs, h1, hd, hz, q1, q2, e1, e2 with
    | [], _, hd, hz, q1, q2, e1, e2 =>
      generalize P.D = PD at *
      simp [b35, b35_s2, b35_s3, startE, N, q1, q2, isi_tup _ _ hz, isTupD, standB]
    | [a], _, hd, hz, q1, q2, e1, e2 =>
      have sb : standB P (.tup [a]) = false := by
        cases a with
        | str w =>
          have o : ∀ s : String, dEq (.tup [.str w]) (.tup [.str (Str.ofString s)]) = false → ¬ w = Str.ofString s := fun s z e => by subst e; simp at z
          simp [standB, arg1, o _ e1, o _ e2]
        | _ => simp [standB]
      rw [sb]
      generalize P.D = PD at *
      simp [b35, b35_s2, b35_s3, startE, N, q1, q2, isi_tup _ _ hz, isTupD]
    | a :: b :: c :: r, _, hd, hz, q1, q2, e1, e2 =>
      have sb : standB P (.tup (a :: b :: c :: r)) = false := by
        cases a with
        | str w => simp [standB, arg1]
        | _ => simp [standB]
      have n3 : ¬ ((r.length : Int) + 1 + 1 + 1 = 2) := by omega
      rw [sb]
      generalize P.D = PD at *
      simp [b35, b35_s2, b35_s3, startE, N, q1, q2, isi_tup _ _ hz, isTupD, n3]
    | [a, b], h1, hd, hz, q1, q2, e1, e2 =>
      have na := h1 a (by simp)
      have nb := h1 b (by simp)
      have nea := cNe_nc na (show Nc (.str "at") from (Sml.lit (k := 2) "at" 4 (by decide)).nc (by decide) (by decide) (by decide) (by decide))
      by_cases ha : dEq a (.str "at") = true
      · obtain rfl : a = .str "at" := by
          cases a <;> simp [dEq] at ha
          rw [ha]
        rw [ha] at nea
        have sb : standB P (.tup [.str "at", b]) = placesB P b := by simp [standB, arg1]
        rw [sb]
        have zb := nb.fz
        cases b with
        | tup ys =>
          obtain ⟨g1, g2⟩ := nb.tup
          have em : cmpB .Eq (.tup ys) (.tup []) = some ys.isEmpty := by
            rw [cEq_nc nb ⟨1, by decide, by decide, by simp, by simp, by simp⟩]
            cases ys <;> simp
          have lc : ∀ x1 x3 x4 x5 x6 x7, lcL (Live ⟨ys, none⟩) (.nm 8) (mNotT (mTru (mCall (callD fs (n + 1)) 34 (mCons (mVar 0) (mCons (mVar 8) mNil)) []))) (mVar 8) [some P.D, x1, some (.tup ys), x3, x4, x5, x6, x7, none] ys [] m = .ok (.lst (ys.filter fun d => !placeB P d)) m := by
            intro x1 x3 x4 x5 x6 x7
            have := lc_pure (p := .nm 8) (mc := mNotT (mTru (mCall (callD fs (n + 1)) 34 (mCons (mVar 0) (mCons (mVar 8) mNil)) []))) (me := mVar 8) (r := [some P.D, x1, some (.tup ys), x3, x4, x5, x6, x7, none]) (m := m) (fun d => !placeB P d) (fun d => d) (it := ys) (ds := ys) (acc := []) (fun d hd => by
              have f := lisplace_ n h d (g1 d hd) m
              refine ⟨_, rfl, ?_, fun _ => by simp⟩
              generalize P.D = PD at *
              simp [f]) (by unfold lim; simp; omega)
            rw [this]; simp
          have ne := ne_nil (Nc_filter nb fun d => !placeB P d)
          rw [filter_emp] at ne
          generalize ys.filter (fun d => !placeB P d) = FL at *
          cases he : ys.isEmpty with
          | true =>
            rw [he] at em
            generalize P.D = PD at *
            simp [b35, b35_s2, b35_s3, b35_s4, startE, N, q1, q2, isi_tup _ _ hz, isi_tup _ _ zb, isTupD, nea, em, placesB, he]
          | false =>
            rw [he] at em
            cases hA : ys.all (placeB P) with
            | false =>
              rw [hA] at ne
              generalize P.D = PD at *
              simp [b35, b35_s2, b35_s3, b35_s4, startE, N, q1, q2, isi_tup _ _ hz, isi_tup _ _ zb, isTupD, nea, em, lc, ne, placesB, he, hA]
            | true =>
              rw [hA] at ne
              obtain ⟨ps, rfl, hp⟩ := all_pl h hA
              have dm : (ps.map plD).map decP = ps := by rw [List.map_map]; exact (List.map_congr_left fun a _ => decP_pl a).trans (List.map_id _)
              have pb : placesB P (.tup (ps.map plD)) = (chN P ps && (ps.head?.map Prod.fst == some 0)) := by simp only [placesB, he, hA, dm, Bool.not_false, Bool.true_and]
              have cut : cutD (ps.map plD) (some 1) none = (ps.drop 1).map plD := by
                have := cutN_from (ps.map plD) 1
                rw [List.map_drop]; exact this
              have z : zipI false [.tup (ps.map plD), .tup ((ps.drop 1).map plD)] = some ⟨zipD (ps.map plD) ((ps.drop 1).map plD), none⟩ := rfl
              have lcn : ∀ x1 x2 x3 x4 x5 x8, lcL (Live ⟨P.partsL, none⟩) (.tp [.nm 6, .nm 7]) mYes (mVar 6) [some P.D, x1, x2, x3, x4, x5, none, none, x8] P.partsL [] m = .ok (.lst (P.pn.map D.str)) m := by
                intro x1 x2 x3 x4 x5 x8
                have beh : P.partsL.map (fun d => match d with | .tup (.str x :: _) => .str x | d => d) = P.pn.map D.str := by
                  unfold Prog.partsL
                  rw [List.map_map, show ((fun d => match d with | D.tup (.str x :: _) => D.str x | d => d) ∘ partD P.bx P.pn) = D.str ∘ Prod.fst from rfl, ← List.map_map, List.map_fst_zip (by rw [h.len]; omega)]
                rw [← beh]
                refine lc_map _ (fun d hd => ?_) (by rw [parts_len h]; have := h.p2; omega)
                unfold Prog.partsL at hd
                obtain ⟨y, _, rfl⟩ := List.mem_map.mp hd
                exact ⟨_, rfl, by simp⟩
              cases ps with
              | nil => simp at he
              | cons a ps =>
                obtain ⟨a1, a2⟩ := a
                obtain ⟨y4, y5, f2⟩ := dueloop_ (n + 1) h (zipD (((a1, a2) :: ps).map plD) ((((a1, a2) :: ps).drop 1).map plD)) (some (.tup [.str "at", .tup (((a1, a2) :: ps).map plD)])) (some (.tup (((a1, a2) :: ps).map plD))) none none none m ((a1, a2) :: ps) none none hp
                have a0 : atI (((a1, a2) :: ps).map plD) 0 = some (plD (a1, a2)) := by rw [List.map_cons]; exact at_c0 _ _
                rw [pb]
                simp only [List.head?_cons, Option.map_some] at pb ⊢
                simp only [Prog.D] at *
                generalize (((a1, a2) :: ps).drop 1).map plD = Y at *
                generalize ((a1, a2) :: ps).map plD = X at *
                generalize P.partsL = PL at *
                generalize P.pn.map D.str = PN at *
                by_cases hz0 : a1 = 0
                · subst hz0
                  cases hc : chN P ((0, a2) :: ps) with
                  | false =>
                    rw [hc] at f2
                    simp only [Bool.false_eq_true, if_false] at f2
                    simp [b35, b35_s2, b35_s3, b35_s4, b35_s5, b35_s7, startE, N, q1, q2, isi_tup _ _ hz, isi_tup _ _ zb, isTupD, nea, em, lc, ne, a0, lcn, cut, z, f2]
                  | true =>
                    rw [hc] at f2
                    simp only [if_true] at f2
                    simp [b35, b35_s2, b35_s3, b35_s4, b35_s5, b35_s7, startE, N, q1, q2, isi_tup _ _ hz, isi_tup _ _ zb, isTupD, nea, em, lc, ne, a0, lcn, cut, z, f2]
                · have n0 : ¬ (a1 : Int) = 0 := by omega
                  have n1 : (some a1 == some 0) = false := by simpa using hz0
                  rw [n1, Bool.and_false]
                  simp [b35, b35_s2, b35_s3, b35_s4, startE, N, q1, q2, isi_tup _ _ hz, isi_tup _ _ zb, isTupD, nea, em, lc, ne, a0, n0, hz0]
        | _ =>
          generalize P.D = PD at *
          simp [b35, b35_s2, b35_s3, startE, N, q1, q2, isi_tup _ _ hz, isi_tup _ _ zb, isTupD, nea, placesB]
      · have ha : dEq a (.str "at") = false := by simpa using ha
        rw [ha] at nea
        have sb : standB P (.tup [a, b]) = false := by
          cases a with
          | str w =>
            have : ¬ w = "at" := fun z => by subst z; simp at ha
            simp [standB, this]
          | _ => simp [standB]
        rw [sb]
        generalize P.D = PD at *
        simp [b35, b35_s2, b35_s3, startE, N, q1, q2, isi_tup _ _ hz, isTupD, nea]
  | _ =>
    generalize P.D = PD at *
    simp [dEq] at q1 q2
    simp [b35, b35_s2, b35_s3, startE, N, q1, q2, isi_tup _ _ hz, isTupD, standB]
end K17

set_option Elab.async false
set_option linter.all false
set_option maxRecDepth 100000
set_option maxHeartbeats 8000000
namespace K17
open PySem PySem.Spec L2 DI
/-- places drawn -/
def PsOk (P : Prog) (ps : List (Nat × Nat)) : Prop := ∀ a ∈ ps, ∃ row, P.row a.1 a.2 = some row
def CallsI (len : Nat) (ds acc : List D) (rows : List Rw) (bx pn : List Str) (m mm : Sto) : Prop := mm = m ∧ ∃ (i : Nat) (rest : List Rw) (cs : List Nat), ds = enF i (rowsD bx pn rest) ∧ acc = cs.map (fun (r : Nat) => D.int r) ∧ (∀ c ∈ cs, c < len) ∧ i + rest.length = len ∧ cs.length ≤ i ∧ len ≤ 24
theorem calls_ (C : CallF) {rows : List Rw} (hl : rows.length ≤ 24) (bx pn : List Str) (x0 x1 x2 x3 x4 x5 x7 x9 : Option D) (m : Sto) : ∃ cs : List Nat, lcL (Live ⟨enF 0 (rowsD bx pn rows), none⟩) (.tp [.nm 8, .nm 10]) (mCmpT .Eq (mAp2 ixO (mVar 10) (mC (.int 0))) (mC (.str "call"))) (mVar 8) [x0, x1, x2, x3, x4, x5, some (.lst (rowsD bx pn rows)), x7, none, x9, none] (enF 0 (rowsD bx pn rows)) [] m = .ok (.lst (cs.map (fun (r : Nat) => D.int r))) m ∧ (∀ c ∈ cs, c < rows.length) ∧ cs.length ≤ 24 := by
  obtain ⟨acc2, m2, e, rfl, i, rest, cs, h1, rfl, h2, h3, h4, h5⟩ := lc_left (p := .tp [.nm 8, .nm 10]) (mc := mCmpT .Eq (mAp2 ixO (mVar 10) (mC (.int 0))) (mC (.str "call"))) (me := mVar 8) (r := [x0, x1, x2, x3, x4, x5, some (.lst (rowsD bx pn rows)), x7, none, x9, none]) (it := enF 0 (rowsD bx pn rows)) (fun ds acc mm => CallsI rows.length ds acc rows bx pn m mm) (ds := enF 0 (rowsD bx pn rows)) (acc := []) (m := m) (fun d ds acc μ hI => by
    obtain ⟨rfl, i, rest, cs, h1, rfl, h2, h3, h4, h5⟩ := hI
    obtain ⟨x, rs, hx, rfl, rfl⟩ := enF_some h1
    match rest, hx with
    | row :: rest, hx =>
      cases hx
      rw [List.length_cons] at h3
      obtain ⟨l, hw⟩ := row_word bx pn row
      refine ⟨by rw [List.length_map]; unfold lim; omega, _, rfl, ?_⟩
      rw [hw]
      cases c : (row.word == Str.ofString "call") with
      | true => exact .inl ⟨μ, .int i, μ, by simp [c], by simp, rfl, i + 1, rest, cs ++ [i], rfl, by simp, fun c hc => by
          rcases List.mem_append.mp hc with hc | hc
          · exact h2 c hc
          · rw [List.mem_singleton] at hc; subst hc; omega, by omega, by rw [List.length_append, List.length_singleton]; omega, h5⟩
      | false => exact .inr ⟨μ, by simp [c], rfl, i + 1, rest, cs, rfl, rfl, h2, by omega, by omega, h5⟩) ⟨rfl, 0, rows, [], rfl, rfl, by simp, by simp, by simp, hl⟩
  exact ⟨cs, e, h2, by omega⟩
def DrI (l : Nat) (P : Prog) (m0 : Sto) (cnt : Nat) (ds : List D) (r : DI.Env) (mm : Sto) : Prop := ∃ (p : Nat) (ps : List (Nat × Nat)) (x5 x6 x7 x8 : Option D), p < P.pn.length ∧ PsOk P ps ∧ ps.length + ds.length = cnt ∧ cnt ≤ 4 ∧ r = [some (.ref l), some P.D, some (.lst (P.pn.map .str)), some (.int p), some (.tup (ps.map plD)), x5, x6, x7, x8, none, none] ∧ Pool mm l ∧ Fr l m0 mm
theorem drstep_ (n l : Nat) {P : Prog} (h : P.Ok 2) (m0 : Sto) (cnt : Nat) : ∀ d ds r mm, DrI l P m0 cnt (d :: ds) r mm → ∃ r1 r2 m2, bindP (.nm 5) d r = some r1 ∧ (b36_l9 (callD fs (n + 1)) r1 mm = .nx r2 m2 ∨ b36_l9 (callD fs (n + 1)) r1 mm = .ct r2 m2) ∧ DrI l P m0 cnt ds r2 m2 := by
  rintro d ds r mm ⟨p, ps, x5, x6, x7, x8, hp, hps, hl, hc, rfl, hP, hF⟩
  have hpr : p < P.rs.length := by rw [h.len]; exact hp
  have er : P.rs[p]? = some P.rs[p] := List.getElem?_eq_getElem hpr
  generalize P.rs[p] = rows at er
  have rk := h.rk p rows er
  have a1 : atI P.partsL (p : Int) = some (.tup [.str (sAt P.pn p), .lst (rowsD P.bx P.pn rows)]) := at_nn _ _ (parts_at h er)
  obtain ⟨cs, c1, c2, c3⟩ := calls_ (callD fs (n + 1)) rk.l2 P.bx P.pn (some (.ref l)) (some P.D) (some (.lst (P.pn.map .str))) (some (.int p)) (some (.tup (ps.map plD))) (some d) x7 none mm
  have rL : (rowsD P.bx P.pn rows).length = rows.length := by simp
  have cL : (cs.map (fun (r : Nat) => D.int r)).length = cs.length := List.length_map ..
  have nL : (P.pn.map D.str).length = P.pn.length := List.length_map ..
  obtain ⟨q, m1, t1, t2, t3, t4⟩ := takeF n l rows.length mm hP (by have := rk.l1; omega) (by have := rk.l2; omega)
  have ncs : cmpB .NotEq (.lst (cs.map (fun (r : Nat) => D.int r))) (.lst []) = some (!cs.isEmpty) := by
    have t := Sml.lsts (k := 2) (h := 0) (w := 8) (ds := cs.map (fun (r : Nat) => D.int r)) fun d hd => by
      obtain ⟨c, hc, rfl⟩ := List.mem_map.mp hd
      have := c2 c hc; have := rk.l2
      exact Sml.nat (by decide) (by omega)
    rw [List.length_map] at t
    rw [ne_nil ((t.mono (Nat.le_refl _) (Nat.mul_le_mul_right _ c3)).nc (by decide) (by decide) (by decide) (by decide))]
    cases cs <;> rfl
  -- the row's number
  obtain ⟨at_, m2, s5, s5a, s5b, s5c⟩ : ∃ (at_ : Nat) (m2 : Sto), b36_s5 (callD fs (n + 1)) [some (.ref l), some P.D, some (.lst (P.pn.map .str)), some (.int p), some (.tup (ps.map plD)), some d, some (.lst (rowsD P.bx P.pn rows)), some (.lst (cs.map (fun (r : Nat) => D.int r))), some (.int q), none, none] m1 = .nx [some (.ref l), some P.D, some (.lst (P.pn.map .str)), some (.int p), some (.tup (ps.map plD)), some d, some (.lst (rowsD P.bx P.pn rows)), some (.lst (cs.map (fun (r : Nat) => D.int r))), some (.int at_), none, none] m2 ∧ at_ < rows.length ∧ Pool m2 l ∧ Fr l mm m2 := by
    cases hE : cs.isEmpty with
    | true =>
      rw [hE] at ncs
      refine ⟨q, m1, ?_, t2, t3, t4⟩
      generalize cs.map (fun (r : Nat) => D.int r) = CS at *
      generalize rowsD P.bx P.pn rows = RW at *
      generalize P.D = PD at *
      simp [b36_s5, ncs]
    | false =>
      rw [hE] at ncs
      obtain ⟨z, m2, u1, u2, u3, u4⟩ := takeF n l 4 m1 t3 (by decide) (by decide)
      have u1 : callD fs (n + 1) 27 [.ref l, .int 4] m1 = .ok (.int z) m2 := u1
      by_cases hz : 0 < z
      · have cpos : 0 < cs.length := by cases cs <;> simp at hE ⊢
        obtain ⟨y, m3, v1, v2, v3, v4⟩ := takeF n l cs.length m2 u3 cpos (by omega)
        have ac : atI (cs.map (fun (r : Nat) => D.int r)) (y : Int) = some (.int (cs[y] : Nat)) := at_nn _ _ (by simp [v2])
        have hz : (0 : Int) < z := by omega
        refine ⟨cs[y], m3, ?_, c2 _ (List.getElem_mem v2), v3, (t4.trans u4).trans v4⟩
        generalize cs.map (fun (r : Nat) => D.int r) = CS at *
        generalize cs[y] = cy at *
        generalize cs.length = cl at *
        generalize rowsD P.bx P.pn rows = RW at *
        generalize P.D = PD at *
        have hz : 0 < z := by omega
        simp [b36_s5, b36_s4, ncs, u1, hz, cL, v1, ac]
      · refine ⟨q, m2, ?_, t2, u3, t4.trans u4⟩
        generalize cs.map (fun (r : Nat) => D.int r) = CS at *
        generalize rowsD P.bx P.pn rows = RW at *
        generalize P.D = PD at *
        simp [b36_s5, ncs, u1, hz]
  have hrow : P.row p at_ = some rows[at_] := by simp [Prog.row, er, List.getElem?_eq_getElem s5a]
  have ar : atI (rowsD P.bx P.pn rows) (at_ : Int) = some ((rows[at_]).D P.bx P.pn) := at_nn _ _ (by simp [s5a])
  have ad : binS .Add (.tup (ps.map plD)) (.tup [.tup [.int p, .int at_]]) m2 = some (.tup ((ps ++ [(p, at_)]).map plD), m2) := by
    rw [v_tupAdd m2 _ _ (by simp; omega)]; simp
  obtain ⟨pt, m3, w1, w2, w3, w4⟩ := takeF n l P.pn.length m2 s5b h.p1 (by have := h.p2; omega)
  -- the next part
  have rok := rk.ok _ (List.getElem_mem s5a)
  generalize rows[at_] = row at *
  obtain ⟨pt2, m4, s8, s8a, s8b, s8c⟩ : ∃ (pt2 : Nat) (m4 : Sto), b36_s8 (callD fs (n + 1)) [some (.ref l), some P.D, some (.lst (P.pn.map .str)), some (.int pt), some (.tup ((ps ++ [(p, at_)]).map plD)), some d, some (.lst (rowsD P.bx P.pn rows)), some (.lst (cs.map (fun (r : Nat) => D.int r))), some (.int at_), none, none] m3 = .nx [some (.ref l), some P.D, some (.lst (P.pn.map .str)), some (.int pt2), some (.tup ((ps ++ [(p, at_)]).map plD)), some d, some (.lst (rowsD P.bx P.pn rows)), some (.lst (cs.map (fun (r : Nat) => D.int r))), some (.int at_), none, none] m4 ∧ pt2 < P.pn.length ∧ Pool m4 l ∧ Fr l mm m4 := by
    by_cases hcw : ∃ c, row = .call c
    · obtain ⟨c, rfl⟩ := hcw
      obtain ⟨z, m4, u1, u2, u3, u4⟩ := takeF n l 6 m3 w3 (by decide) (by decide)
      have u1 : callD fs (n + 1) 27 [.ref l, .int 6] m3 = .ok (.int z) m4 := u1
      have ix := index_strs h.pd rok.2 m4
      simp only [Rw.D] at ar
      by_cases hz : 0 < z
      · refine ⟨c, m4, ?_, rok.2, u3, (s5c.trans w4).trans u4⟩
        generalize cs.map (fun (r : Nat) => D.int r) = CS at *
        generalize (ps ++ [(p, at_)]).map plD = PL2 at *
        generalize rowsD P.bx P.pn rows = RW at *
        generalize P.D = PD at *
        generalize P.pn.map D.str = PN at *
        simp [b36_s8, b36_s7, ar, u1, hz, ix, okFz]
      · refine ⟨pt, m4, ?_, w2, u3, (s5c.trans w4).trans u4⟩
        generalize cs.map (fun (r : Nat) => D.int r) = CS at *
        generalize (ps ++ [(p, at_)]).map plD = PL2 at *
        generalize rowsD P.bx P.pn rows = RW at *
        generalize P.D = PD at *
        generalize P.pn.map D.str = PN at *
        simp [b36_s8, ar, u1, hz]
    · obtain ⟨l', hw⟩ := row_word P.bx P.pn row
      have nw : (row.word == Str.ofString "call") = false := by
        cases row <;> first | exact absurd ⟨_, rfl⟩ hcw | simp [Rw.word]
      rw [hw] at ar
      refine ⟨pt, m3, ?_, w2, w3, s5c.trans w4⟩
      generalize cs.map (fun (r : Nat) => D.int r) = CS at *
      generalize (ps ++ [(p, at_)]).map plD = PL2 at *
      generalize rowsD P.bx P.pn rows = RW at *
      generalize P.D = PD at *
      generalize P.pn.map D.str = PN at *
      simp [b36_s8, ar, nw]
  refine ⟨_, _, m4, rfl, .inl ?_, pt2, ps ++ [(p, at_)], some d, some (.lst (rowsD P.bx P.pn rows)), some (.lst (cs.map (fun (r : Nat) => D.int r))), some (.int at_), s8a, fun a ha => ?_, by rw [List.length_append, List.length_singleton]; rw [List.length_cons] at hl; omega, hc, rfl, s8b, hF.trans s8c⟩
  · simp only [Prog.D] at *
    generalize cs.map (fun (r : Nat) => D.int r) = CS at *
    generalize (ps ++ [(p, at_)]).map plD = PL2 at *
    generalize ps.map plD = PL1 at *
    generalize rowsD P.bx P.pn rows = RW at *
    generalize P.partsL = PL at *
    generalize P.pn.map D.str = PN at *
    simp [b36_l9, b36_s3, b36_s6, a1, enumD_F, c1, rL, t1, s5, ad, nL, w1, s8]
  · rcases List.mem_append.mp ha with ha | ha
    · exact hps a ha
    · rw [List.mem_singleton] at ha; subst ha; exact ⟨_, hrow⟩
theorem drawn_ (n l : Nat) {P : Prog} (h : P.Ok 2) (m : Sto) (p : Pool m l) : ∃ (ps : List (Nat × Nat)) (m' : Sto), callD fs (n + 2) 36 [.ref l, P.D] m = .ok (.tup [.str "at", .tup (ps.map plD)]) m' ∧ PsOk P ps ∧ 1 ≤ ps.length ∧ ps.length ≤ 4 ∧ Pool m' l ∧ Fr l m m' := by
  rw [e36]
  have N : p36.N.length = 11 := rfl
  have lcn : ∀ x0 x2 x3 x4 x5 x7 x8 x10, lcL (Live ⟨P.partsL, none⟩) (.tp [.nm 9, .nm 6]) mYes (mVar 9) [x0, some P.D, x2, x3, x4, x5, none, x7, x8, none, x10] P.partsL [] m = .ok (.lst (P.pn.map D.str)) m := by
    intro x0 x2 x3 x4 x5 x7 x8 x10
    have beh : P.partsL.map (fun d => match d with | .tup (.str x :: _) => .str x | d => d) = P.pn.map D.str := by
      unfold Prog.partsL
      rw [List.map_map, show ((fun d => match d with | D.tup (.str x :: _) => D.str x | d => d) ∘ partD P.bx P.pn) = D.str ∘ Prod.fst from rfl, ← List.map_map, List.map_fst_zip (by rw [h.len]; omega)]
    rw [← beh]
    refine lc_map _ (fun d hd => ?_) (by rw [parts_len h]; have := h.p2; omega)
    unfold Prog.partsL at hd
    obtain ⟨y, _, rfl⟩ := List.mem_map.mp hd
    exact ⟨_, rfl, by simp⟩
  have nL : (P.pn.map D.str).length = P.pn.length := List.length_map ..
  obtain ⟨q, m1, t1, t2, t3, t4⟩ := takeF n l P.pn.length m p h.p1 (by have := h.p2; omega)
  obtain ⟨r4, m2, y, f1, f2, f3, f4, f5⟩ := pickF (n := n) (xs := [.int 0, .int 0, .int 0, .int (q : Int)]) t3 (by simp) (by simp)
  have f1 : callD fs (n + 1) 27 [.ref l, .int 4] m1 = .ok (.int r4) m2 := f1
  obtain ⟨p0, rfl, hp0⟩ : ∃ p0 : Nat, y = .int p0 ∧ p0 < P.pn.length := by
    simp only [List.mem_cons, List.not_mem_nil, or_false] at f3
    rcases f3 with rfl | rfl | rfl | rfl
    · exact ⟨0, rfl, h.p1⟩
    · exact ⟨0, rfl, h.p1⟩
    · exact ⟨0, rfl, h.p1⟩
    · exact ⟨q, rfl, t2⟩
  obtain ⟨c, m3, g1, g2, g3, g4⟩ := takeF n l 4 m2 f4 (by decide) (by decide)
  have g1 : callD fs (n + 1) 27 [.ref l, .int 4] m2 = .ok (.int c) m3 := g1
  have rg : rngI [.int (1 + (c : Int))] = some ⟨intRange 0 (1 + c), none⟩ := by
    have := rngN (k := 1 + c) (by omega)
    rwa [show ((1 + c : Nat) : Int) = 1 + (c : Int) by omega] at this
  obtain ⟨r2, m4, f, pp, ps, x5, x6, x7, x8, z1, z2, z3, z4, rfl, z5, z6⟩ := for_left (it := intRange 0 (1 + c)) (ds := intRange 0 (1 + c)) (m := m3) (r := [some (.ref l), some P.D, some (.lst (P.pn.map .str)), some (.int p0), some (.tup []), none, none, none, none, none, none]) _ (drstep_ n l h m (1 + c))
    ⟨p0, [], none, none, none, none, hp0, fun a ha => by simp at ha, by simp [intRange], by omega, rfl, g3, (t4.trans f5).trans g4⟩
  rw [List.length_nil, Nat.add_zero] at z3
  refine ⟨ps, m4, ?_, z2, by omega, by omega, z5, z6⟩
  simp only [Prog.D] at *
  generalize ps.map plD = PS at *
  generalize P.partsL = PL at *
  generalize P.pn.map D.str = PN at *
  simp [b36, b36_s1, b36_s2, b36_s10, startE, N, lcn, nL, t1, f1, f2, g1, rg, f]
/-- things at hand, small -/
def Tn (d : D) : Prop := Sml 2 6 2000 d
theorem Tn.nc {d : D} (h : Tn d) : Nc d := Sml.nc h (by decide) (by decide) (by decide) (by decide)
theorem tn_of {d : D} (h1 : okD 2 d = true) (h2 : hD d ≤ 6) (h3 : wD 2 d ≤ 2000) : Tn d := ⟨h1, h2, h3⟩
theorem bent_ (n l : Nat) {P : Prog} (h : P.Ok 2) {ps : List (Nat × Nat)} (hps : PsOk P ps) (l1 : 1 ≤ ps.length) (l2 : ps.length ≤ 4) (m : Sto) (p : Pool m l) : ∃ (d : D) (m' : Sto), callD fs (n + 2) 37 [.ref l, .tup [.str "at", .tup (ps.map plD)]] m = .ok d m' ∧ Tn d ∧ Pool m' l ∧ Fr l m m' := by
  rw [e37]
  have N : p37.N.length = 8 := rfl
  have pL : (ps.map plD).length = ps.length := List.length_map ..
  obtain ⟨j, m1, t1, t2, t3, t4⟩ := takeF n l ps.length m p l1 (by omega)
  have aj : atI (ps.map plD) (j : Int) = some (plD ps[j]) := at_nn _ _ (by simp [t2])
  obtain ⟨row, er⟩ := hps _ (List.getElem_mem t2)
  obtain ⟨q1, q2⟩ := row_lt h er
  generalize hq : ps[j] = q at *
  obtain ⟨a, b⟩ := q
  have q1 : a < 6 := q1
  have q2 : b < 24 := q2
  obtain ⟨r9, m2, y, f1, f2, f3, f4, f5⟩ := pickF (n := n) (xs := [.tup [.int a, .int ((b : Int) + 30)], .tup [.int a, .int (-1)], .tup [.int (-1), .int b], .tup [.int a, .bl true], .lst [.int a, .int b], .tup [.int a, .int b, .int 0], .tup [.int a], .non, .tup [.int b, .int a]]) t3 (by simp) (by simp)
  have f1 : callD fs (n + 1) 27 [.ref l, .int 9] m1 = .ok (.int r9) m2 := f1
  have sy : okD 2 y = true ∧ hD y ≤ 1 ∧ wD 2 y ≤ 30 := by
    simp only [List.mem_cons, List.not_mem_nil, or_false] at f3
    rcases f3 with rfl | rfl | rfl | rfl | rfl | rfl | rfl | rfl | rfl <;> (refine ⟨?_, ?_, ?_⟩ <;> simp [okD_int] <;> omega)
  have sX : okDs 2 (ps.map plD) = true ∧ hDs (ps.map plD) ≤ 1 ∧ wDs 2 (ps.map plD) ≤ 80 := by
    have t := Sml.tups (k := 2) (h := 1) (w := 8 * 2 + 2) (ds := ps.map plD) fun d hd => by
      obtain ⟨a, ha, rfl⟩ := List.mem_map.mp hd
      obtain ⟨row, e⟩ := hps a ha
      have := row_lt h e
      exact pl_sml (by decide) (by omega) (by omega)
    rw [List.length_map] at t
    obtain ⟨t1, t2, t3⟩ := t
    rw [okD_tup] at t1; rw [hD_tup] at t2; rw [wD_tup] at t3
    exact ⟨t1, by omega, by omega⟩
  have c1 : cutD (ps.map plD) none (some (j : Int)) = (ps.map plD).take j := cutN_to _ _
  have c2 : cutD (ps.map plD) (some ((j : Int) + 1)) none = (ps.map plD).drop (j + 1) := by
    have := cutN_from (ps.map plD) (j + 1)
    rw [show ((j : Int) + 1) = ((j + 1 : Nat) : Int) by omega, this]
  have ad1 : ∀ μ, binS .Add (.tup ((ps.map plD).take j)) (.tup [y]) μ = some (.tup ((ps.map plD).take j ++ [y]), μ) := fun μ => v_tupAdd μ _ _ (by rw [List.length_take]; simp; omega)
  have ad2 : ∀ μ, binS .Add (.tup ((ps.map plD).take j ++ [y])) (.tup ((ps.map plD).drop (j + 1))) μ = some (.tup ((ps.map plD).take j ++ [y] ++ (ps.map plD).drop (j + 1)), μ) := fun μ => v_tupAdd μ _ _ (by rw [List.length_append, List.length_take, List.length_drop]; simp; omega)
  have sY : okDs 2 ((ps.map plD).take j ++ [y] ++ (ps.map plD).drop (j + 1)) = true ∧ hDs ((ps.map plD).take j ++ [y] ++ (ps.map plD).drop (j + 1)) ≤ 1 ∧ wDs 2 ((ps.map plD).take j ++ [y] ++ (ps.map plD).drop (j + 1)) ≤ 200 := by
    have mem : ∀ d ∈ (ps.map plD).take j ++ [y] ++ (ps.map plD).drop (j + 1), d = y ∨ d ∈ ps.map plD := fun d hd => by
      rcases List.mem_append.mp hd with hd | hd
      · rcases List.mem_append.mp hd with hd | hd
        · exact .inr (List.mem_of_mem_take hd)
        · exact .inl (List.mem_singleton.mp hd)
      · exact .inr (List.mem_of_mem_drop hd)
    refine ⟨okDs_all.mpr fun d hd => ?_, hDs_le fun d hd => ?_, ?_⟩
    · rcases mem d hd with rfl | hd
      · exact sy.1
      · exact okDs_all.mp sX.1 d hd
    · rcases mem d hd with rfl | hd
      · exact sy.2.1
      · exact Nat.le_trans (hD_mem hd) sX.2.1
    · have := wDs_le (k := 2) (B := 30) (ds := (ps.map plD).take j ++ [y] ++ (ps.map plD).drop (j + 1)) fun d hd => by
        rcases mem d hd with rfl | hd
        · exact sy.2.2
        · obtain ⟨z, hz, rfl⟩ := List.mem_map.mp hd
          simp
      have hl : ((ps.map plD).take j ++ [y] ++ (ps.map plD).drop (j + 1)).length ≤ 5 := by simp; omega
      have := Nat.mul_le_mul_right 31 hl
      omega
  generalize (ps.map plD).take j ++ [y] ++ (ps.map plD).drop (j + 1) = Y at *
  generalize (ps.map plD).take j ++ [y] = Y1 at *
  generalize (ps.map plD).take j = Y2 at *
  generalize (ps.map plD).drop (j + 1) = Y3 at *
  generalize ps.map plD = X at *
  obtain ⟨r16, m3, z, g1, g2, g3, g4, g5⟩ := pickF (n := n) (m := (m2 ++ [O.lst [.tup [.str "at", .tup Y], .tup [.str "at", .tup Y], .tup [.str "at", .tup []], .tup [.str "at", .lst X], .lst [.str "at", .tup X], .tup [.str "at"], .tup [.str "At", .tup X]]]).set m2.length .dead) (xs := [.tup [.str "at", .tup Y], .tup [.str "at", .tup Y], .tup [.str "at", .tup []], .tup [.str "at", .lst X], .lst [.str "at", .tup X], .tup [.str "at"], .tup [.str "At", .tup X], .tup [.str "ended", .tup X], .tup [.str "failed"], .tup [.str "ended"], .lst [.str "ended"], .str "ended", .non, .int 5, .tup [], .tup [.str "at", .tup X, .int 0]]) (pool_set (pool_app f4) (by have := pool_lt f4; omega)) (by simp) (by simp)
  have g1 : callD fs (n + 1) 27 [.ref l, .int 16] _ = .ok (.int r16) m3 := g1
  obtain ⟨x1, x2, x3⟩ := sX
  obtain ⟨y1, y2, y3⟩ := sY
  have tz : Tn z := by
    have lw : ∀ s : String, s.toList.length ≤ 10 → okD 2 (.str (Str.ofString s)) = true ∧ wD 2 (.str (Str.ofString s)) ≤ 10 := fun s hs => ⟨okS_lit 2 s, by rw [wlit 2 s _ rfl]; exact hs⟩
    obtain ⟨s1, w1⟩ := lw "at" (by decide)
    obtain ⟨s2, w2⟩ := lw "At" (by decide)
    obtain ⟨s3, w3⟩ := lw "ended" (by decide)
    obtain ⟨s4, w4⟩ := lw "failed" (by decide)
    simp only [List.mem_cons, List.not_mem_nil, or_false] at g3
    rcases g3 with rfl | rfl | rfl | rfl | rfl | rfl | rfl | rfl | rfl | rfl | rfl | rfl | rfl | rfl | rfl | rfl <;>
      refine tn_of ?_ ?_ ?_ <;> (try simp only [okD_tup, okD_lst, okDs_cons, okDs_nil, hD_tup, hD_lst, hDs_cons, hDs_nil, hD_str, hD_int, hD_non, wD_tup, wD_lst, wDs_cons, wDs_nil, wD_int, wD_non, okD_non, s1, s2, s3, s4, x1, y1, Bool.and_true, Bool.and_self]) <;> first | rfl | omega | decide +kernel
  refine ⟨z, m3, ?_, tz, g4, ((t4.trans f5).trans ((Fr.app _ _ _).set (Nat.le_refl _))).trans g5⟩
  have il : ∀ c, isLst (.ref m2.length) (m2 ++ [.lst c]) = true := fun c => by simp [isLst]
  have ap : ∀ (c : List D) (d : D), c.length < 100 → appO (.ref m2.length) [d] (m2 ++ [.lst c]) = some (.non, m2 ++ [.lst (c ++ [d])]) := fun c d hc => by
    have : c.length < lim := by unfold lim; omega
    simp [appO, this]
  have fz : ∀ c, frzO (.ref m2.length) (m2 ++ [.lst c]) = (.lst c, m2 ++ [.dead]) := fun c => by
    rw [frz_ref _ _ _ (get_snoc m2 (O.lst c)), set_snoc]
  rw [set_snoc] at g1
  simp [b37, b37_s1, b37_s2, b37_s3, b37_s4, b37_s5, b37_s6, b37_s7, startE, N, pL, t1, aj, v_lstAdd, c1, c2, ad1, ad2, f1, f2, il, ap, fz, g1, g2]
end K17

set_option Elab.async false
set_option linter.all false
set_option maxRecDepth 100000
set_option maxHeartbeats 8000000
namespace K17
open PySem PySem.Spec L2 DI
theorem stand_nc {k : Nat} {P : Prog} (h : P.Ok k) {s : Stand} (hs : s.ok P) : Nc s.D := (stand_sml h hs).nc (by have := h.k1; omega) h.k2 (by omega) (by have := h.k2; omega)
def Gr (m m' : Sto) : Prop := ∃ X, m' = m ++ X
theorem Gr.trans {m m1 m2 : Sto} (a : Gr m m1) (b : Gr m1 m2) : Gr m m2 := by
  obtain ⟨X, rfl⟩ := a
  obtain ⟨Y, rfl⟩ := b
  exact ⟨X ++ Y, by simp⟩
theorem gr_look (P : Prog) (m : Sto) : Gr m (looked2 P m) := ⟨_, rfl⟩
theorem Gr.pool {m m' : Sto} {l : Nat} (a : Gr m m') (p : Pool m l) : Pool m' l := by
  obtain ⟨X, rfl⟩ := a
  exact pool_app p
theorem refused_ (n : Nat) {P : Prog} (h : P.Ok 2) {d : D} (hd : Nc d) (m : Sto) : ∃ m', callD fs (n + 7) 38 [P.D, d] m = .ok (.bl (!standB P d)) m' ∧ Gr m m' := by
  have N : p38.N.length = 3 := rfl
  cases hb : standB P d with
  | true =>
    obtain ⟨s, rfl, hs⟩ := standB_stand h hb
    have f := exits_ n h hs m
    refine ⟨looked2 P m, ?_, gr_look P m⟩
    rw [e38]
    generalize looked2 P m = M at *
    generalize P.D = PD at *
    simp [b38, b38_t1, startE, N, f]
  | false =>
    have f := exits_no n h hd hb m
    refine ⟨looked2 P m, ?_, gr_look P m⟩
    rw [e38]
    generalize looked2 P m = M at *
    generalize P.D = PD at *
    simp [b38, b38_t1, b38_h2, startE, N, f, isAny, RS.gone]
theorem asrows_ (n : Nat) {P : Prog} (h : P.Ok 2) {s : Stand} (hs : s.ok P) (m : Sto) : callD fs (n + 7) 39 [P.D, s.D] m = .ok (.bl true) (looked2 P m) := by
  rw [e39]
  have N : p39.N.length = 2 := rfl
  have f1 := exits_ n h hs m
  have f2 := lexits_ (n + 4) h hs (looked2 P m)
  obtain ⟨t, ht, _⟩ := (outs_sml h hs).shw (by decide) (by decide) (by decide) (by decide)
  generalize looked2 P m = M at *
  generalize (outs P s).map Out.D = OS at *
  generalize P.D = PD at *
  generalize s.D = SD at *
  simp [b39, b39_s1, startE, N, f1, f2, ht]
theorem isN_bl : cmpB .IsNot (.bl true) (.bl true) = some false := by decide
theorem allst_ (n : Nat) {P : Prog} (h : P.Ok 2) {os : List Out} (ho : ∀ o ∈ os, o.s.ok P) (m : Sto) : ∃ m', callD fs (n + 7) 40 [P.D, .lst (os.map Out.D)] m = .ok (.bl true) m' ∧ Gr m m' := by
  have N : p40.N.length = 3 := rfl
  obtain ⟨acc2, m2, lc, os', e, rfl, _, gr⟩ := lc_left (p := .nm 2) (mc := mCmpT .IsNot (mCall (callD fs (n + 6)) 19 (mCons (mVar 0) (mCons (mAp2 ixO (mVar 2) (mC (.int 2))) mNil)) []) (mC (.bl true))) (me := mVar 2) (r := [some P.D, some (.lst (os.map Out.D)), none]) (it := os.map Out.D) (fun ds acc mm => ∃ os' : List Out, ds = os'.map Out.D ∧ acc = [] ∧ (∀ o ∈ os', o.s.ok P) ∧ Gr m mm) (ds := os.map Out.D) (acc := []) (m := m) (fun d ds acc μ hI => by
    obtain ⟨os', e, rfl, ho, gr⟩ := hI
    match os', e with
    | o :: os', e =>
      cases e
      have f := isstand_ n h o.s.D (stand_nc h (ho o (by simp))) μ
      rw [standB_ok h (ho o (by simp))] at f
      refine ⟨by decide, _, rfl, .inr ⟨looked2 P μ, ?_, os', rfl, rfl, fun o' ho' => ho o' (List.mem_cons_of_mem _ ho'), gr.trans (gr_look P μ)⟩⟩
      simp only [Out.D]
      generalize looked2 P μ = M at *
      generalize o.s.D = SD at *
      generalize ownI o.w = W at *
      generalize o.d.D = DD at *
      generalize P.D = PD at *
      simp [f, isN_bl]) ⟨os, rfl, rfl, ho, [], by simp⟩
  have e0 : cmpB .Eq (.lst []) (.lst []) = some true := by rw [cEq_nc nil_nc nil_nc]; simp
  refine ⟨m2, ?_, gr⟩
  rw [e40]
  generalize os.map Out.D = OS at *
  generalize P.D = PD at *
  simp [b40, b40_s1, startE, N, lc, e0]
theorem thing_ (n : Nat) {P : Prog} (h : P.Ok 2) {d : D} (hd : Tn d) (x0 x1 x2 x4 x5 x7 x8 : Option D) (m : Sto) : ∃ y7 y8 m', b41_l6 (callD fs (n + 7)) [x0, x1, x2, some P.D, x4, x5, some d, x7, x8] m = .nx [x0, x1, x2, some P.D, x4, x5, some d, y7, y8] m' ∧ Gr m m' := by
  have nc := hd.nc
  have pk : Sml 2 8 24000 (.lst [P.D, d]) := by
    obtain ⟨a1, a2, a3⟩ := prog_sml h
    obtain ⟨b1, b2, b3⟩ := hd
    refine ⟨?_, ?_, ?_⟩
    · rw [okD_lst, okDs_cons, okDs_cons, okDs_nil, a1, b1]; rfl
    · rw [hD_lst, hDs_cons, hDs_cons, hDs_nil]; omega
    · rw [wD_lst, wDs_cons, wDs_cons, wDs_nil]; omega
  obtain ⟨kp, hk, _⟩ := pk.shw (by decide) (by decide) (by decide) (by decide)
  have f1 := due_ (n + 5) h d nc m
  have f2 := isstand_ (n + 1) h d nc m
  obtain ⟨m2, f3, g3⟩ := refused_ n h nc (looked2 P m)
  have bl : ∀ b c : Bool, cmpB .Eq (.bl b) (.bl c) = some (b == c) := fun b c => by cases b <;> cases c <;> decide +kernel
  have lsk : ∀ μ, lstO [P.D, d] μ = some (.lst [P.D, d], μ) := fun μ => lst_mk' μ _ (by simp)
  cases hb : standB P d with
  | false =>
    rw [hb] at f1 f2 f3
    refine ⟨some (.str kp), some (.bl false), m2, ?_, (gr_look P m).trans g3⟩
    have f2 : callD fs (n + 7) 19 [P.D, d] m = .ok (.bl false) (looked2 P m) := f2
    generalize looked2 P m = M at *
    generalize P.D = PD at *
    simp [b41_l6, b41_s2, b41_s3, b41_s4, b41_s5, hk, f1, f2, f3, bl, repr_bl]
  | true =>
    rw [hb] at f1 f2 f3
    obtain ⟨s, rfl, hs⟩ := standB_stand h hb
    have f4 := exits_ (n + 1) h hs m2
    obtain ⟨m3, f5, g5⟩ := allst_ n h (os := outs P s) (fun o ho => outs_ok h hs o ho) (looked2 P m2)
    have f6 := asrows_ n h hs m3
    refine ⟨some (.str kp), some (.bl true), looked2 P m3, ?_, ((((gr_look P m).trans g3).trans (gr_look P m2)).trans g5).trans (gr_look P m3)⟩
    have f2 : callD fs (n + 7) 19 [P.D, s.D] m = .ok (.bl true) (looked2 P m) := f2
    have f4 : callD fs (n + 7) 25 [P.D, s.D] m2 = .ok (.lst ((outs P s).map Out.D)) (looked2 P m2) := f4
    generalize looked2 P m = M1 at *
    generalize looked2 P m2 = M2 at *
    generalize looked2 P m3 = M3 at *
    generalize (outs P s).map Out.D = OS at *
    generalize P.D = PD at *
    generalize s.D = SD at *
    simp [b41_l6, b41_s2, b41_s3, b41_s4, b41_s5, hk, f1, f2, f3, f4, f5, f6, bl, repr_bl]

theorem pl_tn {P : Prog} (h : P.Ok 2) {ps : List (Nat × Nat)} (hps : PsOk P ps) (l2 : ps.length ≤ 4) : Tn (.tup [.str "at", .tup (ps.map plD)]) := by
  have t := Sml.tups (k := 2) (h := 1) (w := 8 * 2 + 2) (ds := ps.map plD) fun d hd => by
    obtain ⟨a, ha, rfl⟩ := List.mem_map.mp hd
    obtain ⟨row, e⟩ := hps a ha
    have := row_lt h e
    exact pl_sml (by decide) (by omega) (by omega)
  rw [List.length_map] at t
  exact ((Sml.lit (k := 2) "at" 4 (by decide)).tup2 t).mono (by decide) (by omega)
theorem inner_ (n l : Nat) {P : Prog} (h : P.Ok 2) (x0 x1 x4 x5 x6 x7 x8 : Option D) (m : Sto) (p : Pool m l) : ∃ y5 y6 y7 y8 m', b41_l8 (callD fs (n + 7)) [x0, x1, some (.ref l), some P.D, x4, x5, x6, x7, x8] m = .nx [x0, x1, some (.ref l), some P.D, x4, y5, y6, y7, y8] m' ∧ Pool m' l := by
  obtain ⟨ps, m1, f1, hps, l1, l2, p1, _⟩ := drawn_ (n + 5) l h m p
  have f1 : callD fs (n + 7) 36 [.ref l, P.D] m = .ok (.tup [.str "at", .tup (ps.map plD)]) m1 := f1
  obtain ⟨d, m2, f2, hd, p2, _⟩ := bent_ (n + 5) l h hps l1 l2 m1 p1
  have f2 : callD fs (n + 7) 37 [.ref l, .tup [.str "at", .tup (ps.map plD)]] m1 = .ok d m2 := f2
  have t1 := pl_tn h hps l2
  generalize D.tup [.str "at", .tup (ps.map plD)] = ST at *
  obtain ⟨u7, u8, m3, g1, k1⟩ := thing_ n h t1 x0 x1 (some (.ref l)) x4 (some ST) x7 x8 m2
  obtain ⟨v7, v8, m4, g2, k2⟩ := thing_ n h hd x0 x1 (some (.ref l)) x4 (some ST) u7 u8 m3
  refine ⟨some ST, some d, v7, v8, m4, ?_, k2.pool (k1.pool p2)⟩
  have lf : ∀ x6 : Option D, forL (Live ⟨[ST, d], none⟩) (.nm 6) (b41_l6 (callD fs (n + 7))) [ST, d] [x0, x1, some (.ref l), some P.D, x4, some ST, x6, x7, x8] m2 = .nx [x0, x1, some (.ref l), some P.D, x4, some ST, some d, v7, v8] m4 := fun x6 => by
    rw [for_cons, bp_nm]
    simp only [List.set_cons_succ, List.set_cons_zero, g1]
    rw [for_cons, bp_nm]
    simp only [List.set_cons_succ, List.set_cons_zero, g2]
    rw [for_nil]
  generalize P.D = PD at *
  simp [b41_l8, b41_s7, f1, f2, lf]
theorem turn_ (n : Nat) (ns : List Int) (k : Nat) (hk : k < 64) (y2 y3 y4 y5 y6 y7 y8 : Option D) (m : Sto) :
    ∃ z2 z3 z4 z5 z6 z7 z8 m2, b41_l9 (callD fs (n + 7)) [some (.lst (ns.map D.int)), some (.int (k : Int)), y2, y3, y4, y5, y6, y7, y8] m = .nx [some (.lst (ns.map D.int)), some (.int (k : Int)), z2, z3, z4, z5, z6, z7, z8] m2 := by
  obtain ⟨a, b, q1, p⟩ := pool0 (n + 6) ns k hk m
  have P1 : Pool (m ++ [.lst [.int a, .int b]]) m.length := ⟨a, b, by simp, p⟩
  obtain ⟨P, m3, q2, h, _, _, P2, _⟩ := lprog_ (n + 2) m.length (sz := 3) (most := 6) (np := 5) (by decide) (by decide) (by decide) (by decide) (by decide) (by decide) _ P1
  have q2 : callD fs (n + 7) 31 [.ref m.length, .int 3, .int 6, .int 5] (m ++ [.lst [.int a, .int b]]) = .ok P.D m3 := q2
  obtain ⟨r2, m4, f, ⟨x4, x5, x6, x7, x8, rfl⟩, _⟩ := for_inv (p := .nm 4) (s := b41_l8 (callD fs (n + 7))) (it := intRange 0 6) (ds := intRange 0 6) (m := m3) (r := [some (.lst (ns.map D.int)), some (.int (k : Int)), some (.ref m.length), some P.D, y4, y5, y6, y7, y8])
    (fun r μ => (∃ x4 x5 x6 x7 x8, r = [some (.lst (ns.map D.int)), some (.int (k : Int)), some (.ref m.length), some P.D, x4, x5, x6, x7, x8]) ∧ Pool μ m.length) (fun d hd r μ hr => by
      obtain ⟨⟨x4, x5, x6, x7, x8, rfl⟩, hp⟩ := hr
      obtain ⟨z5, z6, z7, z8, m', g, gp⟩ := inner_ n m.length h (some (.lst (ns.map D.int))) (some (.int (k : Int))) (some d) x5 x6 x7 x8 μ hp
      exact ⟨_, _, m', rfl, .inl g, ⟨_, _, _, _, _, rfl⟩, gp⟩) ⟨⟨_, _, _, _, _, rfl⟩, P2⟩
  have rg : rngI [.int 6] = some ⟨intRange 0 6, none⟩ := rngN (k := 6) (by decide)
  refine ⟨some (.ref m.length), some P.D, x4, x5, x6, x7, x8, m4, ?_⟩
  generalize P.D = PD at *
  simp [b41_l9, b41_s1, q1, q2, rg, f]
theorem law_runs (ns : List Int) (h : ns.length ≤ 63) : ∃ μ, callD fs 14 41 [.lst (ns.map D.int)] [] = .ok (.bl true) μ := by
  rw [show callD fs 14 41 [.lst (ns.map D.int)] [] = _ from e41 13 _ _]
  have N : p41.N.length = 9 := rfl
  obtain ⟨c, hc, c0, c1⟩ : ∃ c : Int, (if (if (12 : Int) < ns.length then (12 : Int) else ns.length) > 1 then (if (12 : Int) < ns.length then (12 : Int) else ns.length) else 1) = c ∧ 1 ≤ c ∧ c ≤ 12 := ⟨_, rfl, by split <;> split <;> omega, by split <;> split <;> omega⟩
  obtain ⟨r2, m2, e, ⟨z1, z2, z3, z4, z5, z6, z7, z8, rfl⟩⟩ := for_inv (p := .nm 1) (s := b41_l9 (callD fs (6 + 7))) (it := intRange 0 c.toNat) (ds := intRange 0 c.toNat) (m := [])
    (r := [some (.lst (ns.map D.int)), none, none, none, none, none, none, none, none])
    (fun r _ => ∃ z1 z2 z3 z4 z5 z6 z7 z8, r = [some (.lst (ns.map D.int)), z1, z2, z3, z4, z5, z6, z7, z8]) (fun d hd r m hr => by
      obtain ⟨z1, z2, z3, z4, z5, z6, z7, z8, rfl⟩ := hr
      unfold intRange at hd
      obtain ⟨k, hk, rfl⟩ := List.mem_map.mp hd
      have hk := List.mem_range.mp hk
      obtain ⟨u2, u3, u4, u5, u6, u7, u8, m2, f⟩ := turn_ 6 ns k (by omega) z2 z3 z4 z5 z6 z7 z8 m
      rw [Int.zero_add]
      exact ⟨_, _, m2, rfl, .inl f, ⟨_, _, _, _, _, _, _, _, rfl⟩⟩) ⟨_, _, _, _, _, _, _, _, rfl⟩
  have e : forL (Live ⟨intRange 0 c.toNat, none⟩) (.nm 1) (b41_l9 (callD fs 13)) (intRange 0 c.toNat) [some (.lst (ns.map D.int)), none, none, none, none, none, none, none, none] [] = .nx _ m2 := e
  refine ⟨m2, ?_⟩
  simp [b41, b41_s10, startE, N, hc, rng1 (j := c) (by omega) (by omega), e]
end K17

set_option Elab.async false
set_option linter.all false
set_option maxRecDepth 100000
set_option maxHeartbeats 8000000
open PySem PySem.W PySem.Calls PyProof.Rows
theorem PySem.Challenge.cw_coveredtree_k17_stands_looked_at_holds : PySem.Challenge.rw_coveredtree_k17_stands_looked_at.Holds := by
  w_on; o_law
  refine HandSHeadRun.head_any (r := OpenLaw.row PySem.Challenge.rw_coveredtree_k17_stands_looked_at) (q := view (OpenLaw.row PySem.Challenge.rw_coveredtree_k17_stands_looked_at).prog [60]) (H := K17.hk) (ob := K17.ob) (M := 4000) (loose := K17.loose) (d := HandSHeadRun.topDef (OpenLaw.row PySem.Challenge.rw_coveredtree_k17_stands_looked_at).prog 60) (kwd := []) K17.ob_eq
    (by kernel_rfl) (fun s => by kernel_rfl) K17.run (by kernel_rfl) (by kernel_rfl) (by kernel_rfl) (by rfl) (by first | assumption | decide +kernel) (by decide +kernel) ⟨rfl, rfl, rfl, rfl, rfl, by decide +kernel⟩ ?hw ?hc
  case hw => w_witness2
  case hc =>
    exact DI.walk_di (l := PySem.Challenge.rw_coveredtree_k17_stands_looked_at) (n := 63) (k := 14) (nms := K17.nms) (cs := K17.cs) (gl := K17.gl) (no := K17.no) (xi := K17.xi) (al := K17.al) (xm := K17.xm) (kd := K17.kd) (fn := K17.fn) (fs := K17.fs) (kl := 41) (pl := K17.p41) rfl (by decide) (by kernel_rfl) ⟨rfl, by decide, by decide⟩ (by kernel_rfl) rfl rfl rfl K17.hs K17.hd K17.ht K17.law_runs

