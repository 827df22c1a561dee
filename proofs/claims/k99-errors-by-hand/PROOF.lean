import PyProof.Rows.All
import Wide.All
import OpenK.AllK
import Wide.FinOn
import HandS.ForMost
import HandS.ForExc
import HandS.Lambda
import HandS.ExcInit
import HandS.TupAny
import HandS.TupMul
import HandS.TupLe
import HandS.Wide
import HandS.Deep
import HandS.Style
import PyProof.StrBlock2
import PyProof.Rows.RuleB_pow
import HandS.Flow
import HandS.IsInst
import HandS.ExcField
import HandS.ClsMeth
import KE.KExcInit
import HandS.ExcValue
import HandS.ExcIs
import HandS.Comp
import KE.KIsAll
import KE.KTryMore
import HandS.MakeKwOnly
import KE.KExcStr
import HandS.RaiseMore
import HandS.Ends
import HandS.Words
import HandS.MakeKw
import PySem.Challenge.RW_sameinworlds_k99_errors_by_hand
set_option Elab.async false
set_option linter.all false
set_option maxRecDepth 100000
set_option maxHeartbeats 4000000
/-! TL1: programs over immutable data as plain functions: data, the relation to the heap, the judgement forms. -/
namespace TL
open PySem PySem.Spec PyProof.Rows L2

/-- data: what a tuple, a list that nobody changes any more, a text .. is -/
inductive D where
  | non | bl (b : Bool) | int (i : Int) | str (x : Str)
  | tup (xs : List D) | lst (xs : List D)
  | cls (i : Nat) | fn (i : Nat) (cap : List D) | exc (c : Nat) (d : D) | err (c : Nat) (d : D)
/-- what changes: a list, a dict of int and text keys -/
inductive MO where
  | lst (ds : List D) | dct (kvs : List (Key × D))
/-- what a slot of a frame holds: data; an object of its own; the object that came as the k-th argument -/
inductive SD where
  | val (d : D) | own (m : MO) | io (k : Nat) (m : MO)
abbrev SS := List (Option SD)
/-- an exception: its class's number, its field -/
structure Ex where
  c : Nat
  d : D
inductive O (α : Type) where
  | ok (a : α) (σ : SS) | ex (x : Ex) (σ : SS) | bad
def O.bind {α β : Type} (o : O α) (f : α → SS → O β) : O β := match o with
  | .ok a σ => f a σ
  | .ex x σ => .ex x σ
  | .bad => .bad
def ofOpt {α : Type} (o : Option α) : SS → O α := fun σ => match o with
  | some a => .ok a σ
  | none => .bad
inductive OS where
  | nx (σ : SS) | rt (d : D) (σ : SS) | rtm (m : MO) (σ : SS) | bk (σ : SS) | ct (σ : SS) | ex (x : Ex) (σ : SS) | bad

/-- the program's constants: classes and their field, closures -/
structure Cn where
  K : PySem.W.Frag
  ca : Nat → Addr
  cf : Nat → Str
  cm : Nat → Str
  fa : Nat → Addr
  T : List (Addr × Str)
/-- an exception object of the class cls, its dict at dd -/
def exH (cls : Value) (dd a : Addr) : HO := .ext fun h => ∃ (oe : Obj) (vs : Array Value), h.get? a = some oe ∧ Zc cls (some dd) oe ∧ oe.data = .fields vs
/-- an exception object as its __init__ left it: the args at t1 -/
def exoA (a c t1 : Addr) (od : Option Addr) : HO := .ext fun h => h.get? a = some ({ cls := .ref c, dict := od, data := .fields #[.ref t1, .none, .none, .none, .bool false, .none] } : Obj)
def Cn.eo (C : Cn) (c : Nat) (a dd : Addr) : HO := exH (.ref (C.ca c)) dd a

def fixd : HO → Bool
  | .lst _ | .dK _ | .dT _ | .set _ _ | .ins _ _ _ | .tbl _ => false
  | _ => true
def notTbl : HO → Bool
  | .tbl _ => false
  | _ => true
/-- what stands is kept, and the tables of code objects are in order -/
def Fx (H H' : Hp) : Prop := (∀ a o, H a = some o → fixd o = true → H' a = some o) ∧ ∀ T, LamX.Tabs T H → LamX.Tabs T H'
theorem Fx.refl (H : Hp) : Fx H H := ⟨fun _ _ h _ => h, fun _ h => h⟩
theorem Fx.trans {H H1 H2 : Hp} (f : Fx H H1) (g : Fx H1 H2) : Fx H H2 := ⟨fun a o h d => g.1 a o (f.1 a o h d) d, fun T h => g.2 T (f.2 T h)⟩
theorem Fx.of_same {H H' : Hp} (s : Same H H') : Fx H H' := ⟨fun a o h _ => s a o h, fun T h => LamX.Tabs.ext h s⟩
theorem same_new {H : Hp} {p : Addr} {o : HO} (h : H p = none) : Same H (upd H p o) := fun b u e => by rw [upd_ne (ne_of_none e h)]; exact e
theorem Fx.upd {H : Hp} {a : Addr} {o o' : HO} (h : H a = some o) (d : fixd o = false) (n : notTbl o = true := by rfl) : Fx H (L2.upd H a o') := by
  have k : ∀ b u, H b = some u → (fixd u = true ∨ notTbl u = false) → L2.upd H a o' b = some u := fun b u e f => by
    rw [upd_ne fun z => by
      rw [z, h] at e; cases e
      rcases f with f | f
      · rw [d] at f; cases f
      · rw [n] at f; cases f]
    exact e
  refine ⟨fun b u e f => k b u e (.inl f), fun T t p hp => ?_⟩
  obtain ⟨ps, h1, h2, h3⟩ := t p hp
  refine ⟨ps, k _ _ h1 (.inr rfl), h2, fun pos cv hc => ?_⟩
  obtain ⟨c, e1, e2⟩ := h3 pos cv hc
  exact ⟨c, e1, k _ _ e2 (.inl rfl)⟩

/-- a list that stands: locked, or written in the text -/
def FxL (K : PySem.W.Frag) (H : Hp) (a : Addr) (xs : List V) : Prop :=
  (∃ o, H a = some (.frz o (.lst xs))) ∨ ((∀ u, H a ≠ some u) ∧ SqL K H a xs)
/-- a tuple that stands -/
def FxT (K : PySem.W.Frag) (H : Hp) (a : Addr) (xs : List V) : Prop := SqT K H a xs

mutual
def Rp (C : Cn) (H : Hp) : D → V → Prop
  | .non, v => v = .non
  | .bl b, v => v = .bl b
  | .int i, v => v = .int i
  | .str x, v => v = .str x
  | .tup ds, v => ∃ a vs, v = .ref a ∧ SqT C.K H a vs ∧ RpL C H ds vs
  | .lst ds, v => ∃ a vs, v = .ref a ∧ ((∃ o, H a = some (.frz o (.lst vs))) ∨ ∃ (o : Obj) (its : Array Value) (n : Nat), C.K.lookup a = some o ∧ o.cls = .type "list" ∧ o.dict = none ∧ o.data = .seq its n ∧ its.size ≤ sizeLine ∧ Vals vs its.toList) ∧ RpL C H ds vs
  | .cls i, v => v = .ref (C.ca i)
  | .fn i cap, v => cap = [] ∧ v = .ref (C.fa i)
  | .exc c d, v => ∃ a dd x fs, v = .ref a ∧ H a = some (C.eo c a dd) ∧ H dd = some (.xd fs) ∧ fs.lookup (C.cf c) = some x ∧ Rp C H d x
  | .err c d, v => ∃ a dd t1 x fs, v = .ref a ∧ H a = some (exoA a (C.ca c) t1 (some dd)) ∧ H dd = some (exd dd fs) ∧ H t1 = some (.tup [.str (C.cm c)]) ∧ fs.lookup (C.cf c) = some x ∧ Rp C H d x
def RpL (C : Cn) (H : Hp) : List D → List V → Prop
  | [], vs => vs = []
  | d :: ds, vs => ∃ v r, vs = v :: r ∧ Rp C H d v ∧ RpL C H ds r
end

theorem SqT.fx {K : PySem.W.Frag} {H H' : Hp} {a : Addr} {xs : List V} (f : Fx H H') (h : SqT K H a xs) : SqT K H' a xs := by
  rcases h with (h | ⟨o, h⟩) | h
  · exact .inl (.inl (f.1 _ _ h rfl))
  · exact .inl (.inr ⟨o, f.1 _ _ h rfl⟩)
  · exact .inr h
mutual
theorem Rp.fx {C : Cn} {H H' : Hp} (f : Fx H H') : ∀ {d : D} {v : V}, Rp C H d v → Rp C H' d v
  | .non, _, h | .bl _, _, h | .int _, _, h | .str _, _, h | .cls _, _, h => by simpa only [Rp] using h
  | .tup ds, v, h => by
    simp only [Rp] at h ⊢
    obtain ⟨a, vs, e, s, r⟩ := h
    exact ⟨a, vs, e, TL.SqT.fx f s, RpL.fx f r⟩
  | .lst ds, v, h => by
    simp only [Rp] at h ⊢
    obtain ⟨a, vs, e, s, r⟩ := h
    refine ⟨a, vs, e, ?_, RpL.fx f r⟩
    rcases s with ⟨o, s⟩ | s
    · exact .inl ⟨o, f.1 _ _ s rfl⟩
    · exact .inr s
  | .fn i cap, v, h => by
    simp only [Rp] at h ⊢
    exact h
  | .exc c d, v, h => by
    simp only [Rp] at h ⊢
    obtain ⟨a, dd, x, fs, e, s, q, l, r⟩ := h
    exact ⟨a, dd, x, fs, e, f.1 _ _ s rfl, f.1 _ _ q rfl, l, Rp.fx f r⟩
  | .err c d, v, h => by
    simp only [Rp] at h ⊢
    obtain ⟨a, dd, t1, x, fs, e, s, q, z, l, r⟩ := h
    exact ⟨a, dd, t1, x, fs, e, f.1 _ _ s rfl, f.1 _ _ q rfl, f.1 _ _ z rfl, l, Rp.fx f r⟩
theorem RpL.fx {C : Cn} {H H' : Hp} (f : Fx H H') : ∀ {ds : List D} {vs : List V}, RpL C H ds vs → RpL C H' ds vs
  | [], _, h => by simpa only [RpL] using h
  | d :: ds, _, h => by
    simp only [RpL] at h ⊢
    obtain ⟨v, r, e, h1, h2⟩ := h
    exact ⟨v, r, e, Rp.fx f h1, RpL.fx f h2⟩
end
theorem RpL.nil {C : Cn} {H : Hp} : RpL C H [] [] := by simp only [RpL]
theorem RpL.cons {C : Cn} {H : Hp} {d : D} {ds : List D} {v : V} {vs : List V} (h : Rp C H d v) (t : RpL C H ds vs) : RpL C H (d :: ds) (v :: vs) := by
  simp only [RpL]; exact ⟨v, vs, rfl, h, t⟩
theorem RpL.length {C : Cn} {H : Hp} : ∀ {ds : List D} {vs : List V}, RpL C H ds vs → vs.length = ds.length
  | [], _, h => by simp only [RpL] at h; subst h; rfl
  | _ :: _, _, h => by
    simp only [RpL] at h
    obtain ⟨v, r, e, _, h2⟩ := h
    subst e
    simp [RpL.length h2]
theorem RpL.get {C : Cn} {H : Hp} : ∀ {ds : List D} {vs : List V} {i : Nat} {d : D}, RpL C H ds vs → ds[i]? = some d → ∃ v, vs[i]? = some v ∧ Rp C H d v
  | [], _, _, _, _, e => by simp at e
  | _ :: _, _, 0, _, h, e => by
    simp only [RpL] at h
    obtain ⟨v, r, e1, h1, _⟩ := h
    simp at e
    subst e; subst e1
    exact ⟨v, rfl, h1⟩
  | _ :: _, _, i + 1, _, h, e => by
    simp only [RpL] at h
    obtain ⟨v, r, e1, _, h2⟩ := h
    subst e1
    obtain ⟨w, q1, q2⟩ := RpL.get (i := i) h2 (by simpa using e)
    exact ⟨w, by simpa using q1, q2⟩
theorem RpL.append {C : Cn} {H : Hp} : ∀ {ds es : List D} {vs ws : List V}, RpL C H ds vs → RpL C H es ws → RpL C H (ds ++ es) (vs ++ ws)
  | [], _, _, _, h, t => by simp only [RpL] at h; subst h; exact t
  | _ :: _, _, _, _, h, t => by
    simp only [RpL] at h
    obtain ⟨v, r, e, h1, h2⟩ := h
    subst e
    exact .cons h1 (RpL.append h2 t)
theorem RpL.drop {C : Cn} {H : Hp} : ∀ {ds : List D} {vs : List V} (n : Nat), RpL C H ds vs → RpL C H (ds.drop n) (vs.drop n)
  | _, _, 0, h => h
  | [], _, _ + 1, h => by simp only [RpL] at h; subst h; exact .nil
  | _ :: _, _, n + 1, h => by
    simp only [RpL] at h
    obtain ⟨v, r, e, _, h2⟩ := h
    subst e
    exact RpL.drop n h2
theorem RpL.take {C : Cn} {H : Hp} : ∀ {ds : List D} {vs : List V} (n : Nat), RpL C H ds vs → RpL C H (ds.take n) (vs.take n)
  | _, _, 0, _ => .nil
  | [], _, _ + 1, h => by simp only [RpL] at h; subst h; exact .nil
  | _ :: _, _, n + 1, h => by
    simp only [RpL] at h
    obtain ⟨v, r, e, h1, h2⟩ := h
    subst e
    exact .cons h1 (RpL.take n h2)
theorem RpL.dropLast {C : Cn} {H : Hp} {ds : List D} {vs : List V} (h : RpL C H ds vs) : RpL C H ds.dropLast vs.dropLast := by
  rw [List.dropLast_eq_take, List.dropLast_eq_take, h.length]
  exact h.take _
theorem RpL.set {C : Cn} {H : Hp} {d : D} {v : V} (hd : Rp C H d v) : ∀ {ds : List D} {vs : List V} (n : Nat), RpL C H ds vs → RpL C H (ds.set n d) (vs.set n v)
  | [], _, _, h => by simp only [RpL] at h; subst h; exact .nil
  | _ :: _, _, 0, h => by
    simp only [RpL] at h
    obtain ⟨v', r, e, _, h2⟩ := h
    subst e
    exact .cons hd h2
  | _ :: _, _, n + 1, h => by
    simp only [RpL] at h
    obtain ⟨v', r, e, h1, h2⟩ := h
    subst e
    exact .cons h1 (RpL.set hd n h2)

/-! ### slots -/
def RM (C : Cn) (H : Hp) : MO → Addr → Prop
  | .lst ds, a => ∃ vs, H a = some (.lst vs) ∧ RpL C H ds vs
  | .dct kvs, a => ∃ kvV, H a = some (.dK kvV) ∧ kvs.map (·.1) = kvV.map (·.1) ∧ RpL C H (kvs.map (·.2)) (kvV.map (·.2))
/-- the ghost: what must stay as it is; the addresses of the arguments that may change -/
structure Gh where
  hp : Hp
  at_ : Nat → Addr
def RSD (C : Cn) (G : Gh) (H : Hp) : SD → V → List Addr → Prop
  | .val d, v, F => Rp C H d v ∧ F = []
  | .own m, v, F => ∃ a, v = .ref a ∧ F = [a] ∧ RM C H m a
  | .io k m, v, F => v = .ref (G.at_ k) ∧ F = [G.at_ k] ∧ RM C H m (G.at_ k)
structure SR (C : Cn) (G : Gh) (H : Hp) (σ : SS) (τ : L2.St) : Prop where
  len : σ.length = τ.length
  gr : ∀ a o, G.hp a = some o → H a = some o
  nt : ∀ a o, G.hp a = some o → notTbl o = true
  tabs : LamX.Tabs C.T H
  ex : ∃ F : Nat → List Addr, (∀ i sd, σ[i]? = some (some sd) → ∃ v, τ[i]? = some (some v) ∧ RSD C G H sd v (F i)) ∧
    (∀ i j a, i ≠ j → a ∈ F i → a ∈ F j → False) ∧ (∀ i a, a ∈ F i → G.hp a = none) ∧ (∀ i, (∀ sd, σ[i]? ≠ some (some sd)) → F i = [])

theorem RM.there {C : Cn} {H : Hp} {m : MO} {a : Addr} (h : RM C H m a) : ∃ o, H a = some o ∧ fixd o = false := by
  cases m with
  | lst ds => obtain ⟨vs, e, _⟩ := h; exact ⟨_, e, rfl⟩
  | dct kvs => obtain ⟨vs, e, _⟩ := h; exact ⟨_, e, rfl⟩
theorem RM.nt {C : Cn} {H : Hp} {m : MO} {b : Addr} (r : RM C H m b) {u : HO} (q : H b = some u) : notTbl u = true := by
  cases m with
  | lst ds => obtain ⟨vs, z, _⟩ := r; rw [q] at z; cases z; rfl
  | dct kvs => obtain ⟨vs, z, _⟩ := r; rw [q] at z; cases z; rfl
theorem RM.keep {C : Cn} {H H' : Hp} {m : MO} {a : Addr} (h : RM C H m a) (f : Fx H H') (k : H' a = H a) : RM C H' m a := by
  cases m with
  | lst ds => obtain ⟨vs, e, r⟩ := h; exact ⟨vs, k.trans e, r.fx f⟩
  | dct kvs => obtain ⟨vs, e, e2, r⟩ := h; exact ⟨vs, k.trans e, e2, r.fx f⟩
theorem RSD.keep {C : Cn} {G : Gh} {H H' : Hp} {sd : SD} {v : V} {F : List Addr} (h : RSD C G H sd v F) (f : Fx H H') (k : ∀ a ∈ F, H' a = H a) : RSD C G H' sd v F := by
  cases sd with
  | val d => exact ⟨h.1.fx f, h.2⟩
  | own m => obtain ⟨a, e, eF, r⟩ := h; exact ⟨a, e, eF, r.keep f (k a (by rw [eF]; exact List.mem_singleton.mpr rfl))⟩
  | io j m => obtain ⟨e, eF, r⟩ := h; exact ⟨e, eF, r.keep f (k _ (by rw [eF]; exact List.mem_singleton.mpr rfl))⟩
theorem RSD.there {C : Cn} {G : Gh} {H : Hp} {sd : SD} {v : V} {F : List Addr} (h : RSD C G H sd v F) {a : Addr} (ha : a ∈ F) : ∃ o, H a = some o ∧ fixd o = false := by
  cases sd with
  | val d => rw [h.2] at ha; cases ha
  | own m => obtain ⟨b, e, eF, r⟩ := h; rw [eF] at ha; rw [List.mem_singleton.mp ha]; exact r.there
  | io j m => obtain ⟨e, eF, r⟩ := h; rw [eF] at ha; rw [List.mem_singleton.mp ha]; exact r.there
theorem RSD.nt {C : Cn} {G : Gh} {H : Hp} {sd : SD} {v : V} {F : List Addr} (h : RSD C G H sd v F) {a : Addr} (ha : a ∈ F) {o : HO} (e : H a = some o) : notTbl o = true := by
  have k : ∀ {m : MO} {b : Addr}, RM C H m b → ∀ {u : HO}, H b = some u → notTbl u = true := fun {m b} r {u} q => by
    cases m with
    | lst ds => obtain ⟨vs, z, _⟩ := r; rw [q] at z; cases z; rfl
    | dct kvs => obtain ⟨vs, z, _⟩ := r; rw [q] at z; cases z; rfl
  cases sd with
  | val d => rw [h.2] at ha; cases ha
  | own m => obtain ⟨b, _, eF, r⟩ := h; rw [eF] at ha; rw [List.mem_singleton.mp ha] at e; exact k r e
  | io j m => obtain ⟨_, eF, r⟩ := h; rw [eF] at ha; rw [List.mem_singleton.mp ha] at e; exact k r e
/-- what stood stays -/
theorem SR.same {C : Cn} {G : Gh} {H H' : Hp} {σ : SS} {τ : L2.St} (h : SR C G H σ τ) (s : Same H H') : SR C G H' σ τ := by
  obtain ⟨l, g, nt, tb, F, h1, h2, h3, h4⟩ := h
  refine ⟨l, fun a o e => s _ _ (g a o e), nt, tb.ext s, F, fun i sd e => ?_, h2, h3, h4⟩
  obtain ⟨v, e1, r⟩ := h1 i sd e
  refine ⟨v, e1, r.keep (.of_same s) fun a ha => ?_⟩
  obtain ⟨o, q, _⟩ := r.there ha
  rw [q, s _ _ q]
theorem SR.weakG {C : Cn} {G G' : Gh} {H : Hp} {σ : SS} {τ : L2.St} (h : SR C G H σ τ) (e : G'.at_ = G.at_) (w : ∀ a o, G'.hp a = some o → G.hp a = some o) : SR C G' H σ τ := by
  obtain ⟨l, g, nt, tb, F, h1, h2, h3, h4⟩ := h
  refine ⟨l, fun a o q => g a o (w a o q), fun a o q => nt a o (w a o q), tb, F, fun i sd q => ?_, h2, fun i a ha => ?_, h4⟩
  · obtain ⟨v, e1, r⟩ := h1 i sd q
    refine ⟨v, e1, ?_⟩
    cases sd with
    | val d => exact r
    | own m => exact r
    | io k m => unfold RSD at r ⊢; rw [e]; exact r
  · cases q : G'.hp a with
    | none => rfl
    | some o => have z := w a o q; rw [h3 i a ha] at z; cases z
/-- more is to stay: a thing that stands and is nobody's -/
theorem SR.addG {C : Cn} {G : Gh} {H : Hp} {σ : SS} {τ : L2.St} {p : Addr} {o : HO} (h : SR C G H σ τ) (hp : H p = some o) (hn : ∃ H0 : Hp, SR C G H0 σ τ ∧ H0 p = none) (no : notTbl o = true := by rfl) : SR C ⟨upd G.hp p o, G.at_⟩ H σ τ := by
  obtain ⟨H0, ⟨_, _, _, _, F0, k1, _, _, k4⟩, z⟩ := hn
  obtain ⟨l, g, nt, tb, F, h1, h2, h3, h4⟩ := h
  have nF : ∀ i, p ∉ F i := fun i hi => by
    cases e : σ[i]? with
    | none => rw [h4 i fun sd q => by rw [e] at q; cases q] at hi; cases hi
    | some s =>
      cases s with
      | none => rw [h4 i fun sd q => by rw [e] at q; cases q] at hi; cases hi
      | some sd =>
        obtain ⟨v, e1, r⟩ := h1 i sd e
        obtain ⟨v', e1', r'⟩ := k1 i sd e
        rw [e1] at e1'; cases e1'
        have hF : F i = F0 i := by
          cases sd with
          | val d => rw [r.2, r'.2]
          | own m => obtain ⟨a, e2, e3, _⟩ := r; obtain ⟨a', e2', e3', _⟩ := r'; rw [e2] at e2'; cases e2'; rw [e3, e3']
          | io k m => rw [r.2.1, r'.2.1]
        rw [hF] at hi
        obtain ⟨o', q, _⟩ := r'.there hi
        rw [z] at q; cases q
  refine ⟨l, fun a u q => ?_, fun a u q => ?_, tb, F, fun i sd q => ?_, h2, fun i a ha => ?_, h4⟩
  · have q : upd G.hp p o a = some u := q
    by_cases e : a = p
    · subst e
      rw [upd_same] at q; cases q; exact hp
    · rw [upd_ne e] at q; exact g a u q
  · have q : upd G.hp p o a = some u := q
    by_cases e : a = p
    · subst e
      rw [upd_same] at q; cases q; exact no
    · rw [upd_ne e] at q; exact nt a u q
  · obtain ⟨v, e1, r⟩ := h1 i sd q
    exact ⟨v, e1, by cases sd <;> exact r⟩
  · show upd G.hp p o a = none
    rw [upd_ne (show a ≠ p by rintro rfl; exact nF i ha)]
    exact h3 i a ha

/-! ### readings -/
/-- an exception that flies -/
def RX (C : Cn) (H : Hp) (x : Ex) (cls : Value) (d : Option Addr) : Prop :=
  cls = .ref (C.ca x.c) ∧ ∃ dd fs v, d = some dd ∧ H dd = some (.xd fs) ∧ fs.lookup (C.cf x.c) = some v ∧ Rp C H x.d v
section
variable {β γ β' γ' : Type}
def PostG (R : L2.St → Hp → β → γ → Prop) (C : Cn) (W : WX) (τ : L2.St) (G : Gh) (H : Hp) (o : O β) (Q : γ → Hp → Prop) : Prop := match o with
  | .bad => False
  | .ok b σ' => ∀ v H', R τ H' b v → SR C G H' σ' τ → Fx H H' → Q v H'
  | .ex x σ' => ∀ cls d H', RX C H' x cls d → SR C G H' σ' τ → Fx H H' → W cls d τ H'
def tG (R : L2.St → Hp → β → γ → Prop) (C : Cn) (W : WX) (m : SS → O β) : L2.St → Hp → (γ → Hp → Prop) → Prop :=
  fun τ H Q => ∃ G σ, SR C G H σ τ ∧ PostG R C W τ G H (m σ) Q
variable {R : L2.St → Hp → β → γ → Prop} {R' : L2.St → Hp → β' → γ' → Prop} {C : Cn} {W : WX} {m : SS → O β} {f : β → SS → O β'} {τ : L2.St} {H : Hp}
theorem tG.mono {Q Q' : γ → Hp → Prop} (h : tG R C W m τ H Q) (k : ∀ x H1, Q x H1 → Q' x H1) : tG R C W m τ H Q' := by
  obtain ⟨G, σ, r, p⟩ := h
  refine ⟨G, σ, r, ?_⟩
  unfold PostG at p ⊢
  cases e : m σ with
  | bad => rw [e] at p; exact p
  | ok b σ' => rw [e] at p; exact fun v H' a b c => k _ _ (p v H' a b c)
  | ex x σ' => rw [e] at p; exact p
theorem tG_bind {Q : γ' → Hp → Prop} (h : tG R' C W (fun σ => (m σ).bind f) τ H Q) : tG R C W m τ H fun x H1 => ∃ b, R τ H1 b x ∧ Fx H H1 ∧ tG R' C W (f b) τ H1 Q := by
  obtain ⟨G, σ, r, p⟩ := h
  have p : PostG R' C W τ G H ((m σ).bind f) Q := p
  refine ⟨G, σ, r, ?_⟩
  cases e : m σ with
  | bad => rw [e] at p; exact p
  | ok b σ' =>
    rw [e] at p
    have p : PostG R' C W τ G H (f b σ') Q := p
    show ∀ v H', R τ H' b v → SR C G H' σ' τ → Fx H H' → _
    intro v H' a b1 c
    refine ⟨b, a, c, G, σ', b1, ?_⟩
    cases e2 : f b σ' with
    | bad => rw [e2] at p; exact p
    | ok b2 σ2 => rw [e2] at p; exact fun v2 H2 a2 b2 c2 => p v2 H2 a2 b2 (c.trans c2)
    | ex x2 σ2 => rw [e2] at p; exact fun cl d H2 a2 b2 c2 => p cl d H2 a2 b2 (c.trans c2)
  | ex x σ' => rw [e] at p; exact p
theorem tG_opt {o : Option β} {Q : γ → Hp → Prop} (h : tG R C W (ofOpt o) τ H Q) : ∃ b, o = some b ∧ ∀ v H', Same H H' → R τ H' b v → Q v H' := by
  obtain ⟨G, σ, r, p⟩ := h
  cases o with
  | none => exact p.elim
  | some b => exact ⟨b, rfl, fun v H' s a => p v H' a (r.same s) (.of_same s)⟩
end
abbrev tE (C : Cn) (W : WX) (m : SS → O D) : TE := tG (fun _ => Rp C) C W m
abbrev tT (C : Cn) (W : WX) (m : SS → O Bool) : TT := tG (fun _ _ b b' => b' = b) C W m
abbrev tA (C : Cn) (W : WX) (m : SS → O (List D)) : TA := tG (fun _ => RpL C) C W m
structure ME (X : Cx) (C : Cn) (e : Expr) (m : SS → O D) : Prop where
  pe : ∀ E W, Takes (X.wish E) W → PE (X.wish E) e (tE C W m)
structure MT (X : Cx) (C : Cn) (e : Expr) (m : SS → O Bool) : Prop where
  pt : ∀ E W, Takes (X.wish E) W → PT (X.wish E) e (tT C W m)
structure MW (X : Cx) (C : Cn) (e : Expr) (m : SS → O Bool) : Prop where
  pw : ∀ E W, Takes (X.wish E) W → PW (X.wish E) e (tT C W m)
structure MA (X : Cx) (C : Cn) (es : List Expr) (m : SS → O (List D)) : Prop where
  pa : ∀ E W, Takes (X.wish E) W → PA (X.wish E) es (tA C W m)
theorem _root_.L2.PE.imp {X : Cx} {e : Expr} {t t' : TE} (h : PE X e t) (k : ∀ τ H Q, t' τ H Q → t τ H Q) : PE X e t' := ⟨fun p s τ H Q I q => h.run p s τ H Q I (k _ _ _ q)⟩
theorem _root_.L2.PT.imp {X : Cx} {e : Expr} {t t' : TT} (h : PT X e t) (k : ∀ τ H Q, t' τ H Q → t τ H Q) : PT X e t' := ⟨fun p s τ H Q I q => h.run p s τ H Q I (k _ _ _ q)⟩
theorem _root_.L2.PW.imp {X : Cx} {e : Expr} {t t' : TT} (h : PW X e t) (k : ∀ τ H Q, t' τ H Q → t τ H Q) : PW X e t' := ⟨fun wh p s τ H Q I q => h.run wh p s τ H Q I (k _ _ _ q)⟩
theorem _root_.L2.PA.imp {X : Cx} {e : List Expr} {t t' : TA} (h : PA X e t) (k : ∀ τ H Q, t' τ H Q → t τ H Q) : PA X e t' := ⟨fun po p s τ H Q I q => h.run po p s τ H Q I (k _ _ _ q)⟩
theorem _root_.L2.PS.imp {X : Cx} {e : Stmt} {t t' : TS} (h : PS X e t) (k : ∀ D τ H, t' D τ H → t D τ H) : PS X e t' := ⟨fun p s τ H D I q => h.run p s τ H D I (k _ _ _ q)⟩
theorem _root_.L2.PSs.imp {X : Cx} {e : List Stmt} {t t' : TS} (h : PSs X e t) (k : ∀ D τ H, t' D τ H → t D τ H) : PSs X e t' := ⟨fun p s τ H D I q => h.run p s τ H D I (k _ _ _ q)⟩

/-- statements -/
def PostS (C : Cn) (W : WX) (G : Gh) (τ : L2.St) (H : Hp) (o : OS) (D : Ends) : Prop := match o with
  | .bad => False
  | .nx σ' => ∀ τ' H', SR C G H' σ' τ' → Fx H H' → D.nx τ' H'
  | .bk σ' => ∀ τ' H', SR C G H' σ' τ' → Fx H H' → D.bk τ' H'
  | .ct σ' => ∀ τ' H', SR C G H' σ' τ' → Fx H H' → D.ct τ' H'
  | .rt d σ' => ∀ v τ' H', Rp C H' d v → SR C G H' σ' τ' → Fx H H' → D.rt v H'
  | .rtm m σ' => ∀ a o τ' H', H' a = some o → RM C H' m a → G.hp a = none → SR C ⟨upd G.hp a o, G.at_⟩ H' σ' τ' → Fx H H' → D.rt (.ref a) H'
  | .ex x σ' => ∀ cls d τ' H', RX C H' x cls d → SR C G H' σ' τ' → Fx H H' → W cls d τ' H'
def tSt (C : Cn) (W : WX) (m : SS → OS) : TS := fun D τ H => ∃ G σ, SR C G H σ τ ∧ PostS C W G τ H (m σ) D
structure MS (X : Cx) (C : Cn) (st : Stmt) (m : SS → OS) : Prop where
  ps : ∀ E W, Takes (X.wish E) W → PassesOwn (model X.prog X.w) X.A X.env E → PS (X.wish E) st (tSt C W m)
structure MSs (X : Cx) (C : Cn) (st : List Stmt) (m : SS → OS) : Prop where
  ps : ∀ E W, Takes (X.wish E) W → PassesOwn (model X.prog X.w) X.A X.env E → PSs (X.wish E) st (tSt C W m)
end TL

set_option Elab.async false
set_option linter.all false
set_option maxRecDepth 100000
set_option maxHeartbeats 4000000
/-! TL2: slots, handles, names, displays, operators. -/
namespace TL
open PySem PySem.Spec PyProof.Rows L2

/-! ### slots change -/
section
variable {C : Cn} {G : Gh} {H H' : Hp} {σ : SS} {τ : L2.St} {i : Nat} {v : V} {d : D} {a : Addr} {o o2 : HO}
def ptF (i : Nat) (A : List Addr) (F : Nat → List Addr) : Nat → List Addr := fun j => if j = i then A else F j
theorem ptF_same {i : Nat} {A : List Addr} {F : Nat → List Addr} : ptF i A F i = A := if_pos rfl
theorem ptF_ne {i j : Nat} {A : List Addr} {F : Nat → List Addr} (h : ¬ j = i) : ptF i A F j = F j := if_neg h
theorem SR.setVal (h : SR C G H σ τ) (r : Rp C H d v) : SR C G H (σ.set i (some (.val d))) (τ.set i (some v)) := by
  obtain ⟨l, g, nt, tb, F, h1, h2, h3, h4⟩ := h
  refine ⟨by simpa using l, g, nt, tb, ptF i [] F, fun j sd e => ?_, fun j k b hn h5 h6 => ?_, fun j b hb => ?_, fun j hn => ?_⟩
  · by_cases hj : j = i
    · subst hj
      rw [ptF_same]
      rw [List.getElem?_set] at e
      split at e
      · split at e
        · cases e
          exact ⟨v, by rw [List.getElem?_set]; rename_i hl; rw [if_pos rfl, if_pos (l ▸ hl)], r, rfl⟩
        · cases e
      · exact absurd rfl (by assumption)
    · rw [ptF_ne hj]
      rw [List.getElem?_set_ne (Ne.symm hj)] at e
      rw [List.getElem?_set_ne (Ne.symm hj)]
      exact h1 j sd e
  · by_cases hj : j = i
    · rw [hj, ptF_same] at h5; cases h5
    · rw [ptF_ne hj] at h5
      by_cases hk : k = i
      · rw [hk, ptF_same] at h6; cases h6
      · rw [ptF_ne hk] at h6; exact h2 j k b hn h5 h6
  · by_cases hj : j = i
    · rw [hj, ptF_same] at hb; cases hb
    · rw [ptF_ne hj] at hb; exact h3 j b hb
  · by_cases hj : j = i
    · rw [hj, ptF_same]
    · rw [ptF_ne hj]
      refine h4 j fun sd e => hn sd ?_
      rw [List.getElem?_set_ne (Ne.symm hj)]; exact e
theorem SR.freeG (h : SR C ⟨upd G.hp a o, G.at_⟩ H σ τ) (n : G.hp a = none) : SR C G H σ τ :=
  h.weakG rfl fun b u e => by
    show upd G.hp a o b = some u
    rw [upd_ne (show b ≠ a by rintro rfl; rw [n] at e; cases e)]; exact e
/-- the thing that is nobody's is written -/
theorem SR.fz (h : SR C ⟨upd G.hp a o, G.at_⟩ H σ τ) (n : G.hp a = none) (f : Fx H (upd H a o2)) : SR C G (upd H a o2) σ τ := by
  obtain ⟨l, g, nt, tb, F, h1, h2, h3, h4⟩ := h
  have na : ∀ j b, b ∈ F j → b ≠ a := fun j b hb e => by
    have z : upd G.hp a o b = none := h3 j b hb
    rw [e, upd_same] at z; cases z
  refine ⟨l, fun b u e => ?_, fun b u e => nt b u (by show upd G.hp a o b = some u; rw [upd_ne (show b ≠ a by rintro rfl; rw [n] at e; cases e)]; exact e), f.2 _ tb, F, fun j sd e => ?_, h2, fun j b hb => ?_, h4⟩
  · have hb : b ≠ a := by rintro rfl; rw [n] at e; cases e
    rw [upd_ne hb]
    exact g b u (by show upd G.hp a o b = some u; rw [upd_ne hb]; exact e)
  · obtain ⟨w, e1, r⟩ := h1 j sd e
    refine ⟨w, e1, ?_⟩
    have r' : RSD C G H sd w (F j) := by cases sd <;> exact r
    exact r'.keep f fun b hb => upd_ne (na j b hb)
  · have z : upd G.hp a o b = none := h3 j b hb
    rw [upd_ne (na j b hb)] at z; exact z
/-- a new thing comes to a slot -/
theorem SR.setOwn {m : MO} (h : SR C ⟨upd G.hp a o, G.at_⟩ H σ τ) (n : G.hp a = none) (r : RM C H m a) : SR C G H (σ.set i (some (.own m))) (τ.set i (some (.ref a))) := by
  obtain ⟨l, g, nt, tb, F, h1, h2, h3, h4⟩ := h
  have na : ∀ j b, b ∈ F j → b ≠ a := fun j b hb e => by
    have z : upd G.hp a o b = none := h3 j b hb
    rw [e, upd_same] at z; cases z
  refine ⟨by simpa using l, fun b u e => ?_, fun b u e => nt b u (by show upd G.hp a o b = some u; rw [upd_ne (show b ≠ a by rintro rfl; rw [n] at e; cases e)]; exact e), tb, ptF i (if i < σ.length then [a] else []) F, fun j sd e => ?_, fun j k b hn h5 h6 => ?_, fun j b hb => ?_, fun j hn => ?_⟩
  · have hb : b ≠ a := by rintro rfl; rw [n] at e; cases e
    exact g b u (by show upd G.hp a o b = some u; rw [upd_ne hb]; exact e)
  · by_cases hj : j = i
    · subst hj
      rw [ptF_same]
      rw [List.getElem?_set] at e
      split at e
      · split at e
        · cases e
          rename_i hl
          rw [if_pos hl]
          exact ⟨.ref a, by rw [List.getElem?_set]; rw [if_pos rfl, if_pos (l ▸ hl)], a, rfl, rfl, r⟩
        · cases e
      · exact absurd rfl (by assumption)
    · rw [ptF_ne hj]
      rw [List.getElem?_set_ne (Ne.symm hj)] at e
      rw [List.getElem?_set_ne (Ne.symm hj)]
      obtain ⟨w, e1, r1⟩ := h1 j sd e
      exact ⟨w, e1, by cases sd <;> exact r1⟩
  · by_cases hj : j = i
    · rw [hj, ptF_same] at h5
      by_cases hk : k = i
      · exact hn (hj.trans hk.symm)
      · rw [ptF_ne hk] at h6
        split at h5
        · exact na k b h6 (List.mem_singleton.mp h5)
        · cases h5
    · rw [ptF_ne hj] at h5
      by_cases hk : k = i
      · rw [hk, ptF_same] at h6
        split at h6
        · exact na j b h5 (List.mem_singleton.mp h6)
        · cases h6
      · rw [ptF_ne hk] at h6; exact h2 j k b hn h5 h6
  · by_cases hj : j = i
    · rw [hj, ptF_same] at hb
      split at hb
      · rw [List.mem_singleton.mp hb]; exact n
      · cases hb
    · rw [ptF_ne hj] at hb
      have z : upd G.hp a o b = none := h3 j b hb
      rw [upd_ne (na j b hb)] at z; exact z
  · by_cases hj : j = i
    · subst hj
      rw [ptF_same]
      split
      · rename_i hl
        exact absurd (by rw [List.getElem?_set, if_pos rfl, if_pos hl]) (hn (.own m))
      · rfl
    · rw [ptF_ne hj]
      refine h4 j fun sd e => hn sd ?_
      rw [List.getElem?_set_ne (Ne.symm hj)]; exact e
/-- the slot's thing -/
theorem SR.at (h : SR C G H σ τ) {sd : SD} (e : σ[i]? = some (some sd)) : ∃ v F, τ[i]? = some (some v) ∧ RSD C G H sd v F := by
  obtain ⟨l, g, _, _, F, h1, _⟩ := h
  obtain ⟨v, e1, r⟩ := h1 i sd e
  exact ⟨v, F i, e1, r⟩
/-- the slot's own thing is written: it may become another thing, or stand from now on -/
theorem SR.write (h : SR C G H σ τ) {sd sd' : SD} {F0 F1 : List Addr} (e : σ[i]? = some (some sd)) (hv : τ[i]? = some (some v)) (r : RSD C G H sd v F0) (ha : a ∈ F0) (f : Fx H (upd H a o2)) (r' : RSD C G (upd H a o2) sd' v F1) (hs : ∀ b ∈ F1, b ∈ F0) (h0 : F0 = [a]) :
    SR C G (upd H a o2) (σ.set i (some sd')) τ := by
  obtain ⟨l, g, nt, tb, F, h1, h2, h3, h4⟩ := h
  obtain ⟨v', e1, r1⟩ := h1 i sd e
  rw [hv] at e1; cases e1
  have hF : F i = F0 := by
    cases sd with
    | val d => rw [r.2, r1.2]
    | own m => obtain ⟨a, e2, e3, _⟩ := r; obtain ⟨a', e2', e3', _⟩ := r1; rw [e2] at e2'; cases e2'; rw [e3, e3']
    | io k m => rw [r.2.1, r1.2.1]
  have hai : a ∈ F i := by rw [hF]; exact ha
  have nG : G.hp a = none := h3 i a hai
  have nj : ∀ j b, j ≠ i → b ∈ F j → b ≠ a := fun j b hj hb e => h2 j i a hj (e ▸ hb) hai
  have hil : i < σ.length := by
    obtain ⟨q, _⟩ := List.getElem?_eq_some_iff.mp e
    exact q
  refine ⟨by simpa using l, fun b u q => ?_, nt, f.2 _ tb, ptF i F1 F, fun j s q => ?_, fun j k b hn h5 h6 => ?_, fun j b hb => ?_, fun j hn => ?_⟩
  · rw [upd_ne (show b ≠ a by rintro rfl; rw [nG] at q; cases q)]
    exact g b u q
  · by_cases hj : j = i
    · subst hj
      rw [ptF_same]
      rw [List.getElem?_set, if_pos rfl, if_pos hil] at q
      cases q
      exact ⟨v, hv, r'⟩
    · rw [ptF_ne hj]
      rw [List.getElem?_set_ne (Ne.symm hj)] at q
      obtain ⟨w, e2, r2⟩ := h1 j s q
      exact ⟨w, e2, r2.keep f fun b hb => upd_ne (nj j b hj hb)⟩
  · by_cases hj : j = i
    · rw [hj, ptF_same] at h5
      by_cases hk : k = i
      · exact hn (hj.trans hk.symm)
      · rw [ptF_ne hk] at h6
        have := hs b h5
        rw [h0] at this
        exact nj k b hk h6 (List.mem_singleton.mp this)
    · rw [ptF_ne hj] at h5
      by_cases hk : k = i
      · rw [hk, ptF_same] at h6
        have := hs b h6
        rw [h0] at this
        exact nj j b hj h5 (List.mem_singleton.mp this)
      · rw [ptF_ne hk] at h6; exact h2 j k b hn h5 h6
  · by_cases hj : j = i
    · rw [hj, ptF_same] at hb
      have := hs b hb
      rw [h0] at this
      rw [List.mem_singleton.mp this]; exact nG
    · rw [ptF_ne hj] at hb; exact h3 j b hb
  · by_cases hj : j = i
    · subst hj
      exact absurd (by rw [List.getElem?_set, if_pos rfl, if_pos hil]) (hn sd')
    · rw [ptF_ne hj]
      refine h4 j fun s q => hn s ?_
      rw [List.getElem?_set_ne (Ne.symm hj)]; exact q
end

/-! ### freezing -/
def FzQ (Q : VK) : VK := fun v H => Q v H ∨ ∃ a vs, v = .ref a ∧ H a = some (.lst vs) ∧ ∀ o, Q v (upd H a (.frz o (.lst vs)))
theorem _root_.L2.EP.fz {X : Cx} {pins : List (Addr × Obj)} {σ : L2.St} {Q : VK} {u : Value} {s : Shared} (h : EP X pins σ (FzQ Q) u s) : EP X pins σ Q u s := by
  obtain ⟨v, H, I, r, q⟩ := h
  rcases q with q | ⟨a, vs, e, ha, q⟩
  · exact ⟨v, H, I, r, q⟩
  · obtain ⟨od, J⟩ := I.lock ha True.intro
    exact ⟨v, _, J, r, q od⟩
def tFz (t : TE) : TE := fun τ H Q => t τ H (FzQ Q)
theorem pe_fz {X : Cx} {e : Expr} {t : TE} (h : PE X e t) : PE X e (tFz t) := ⟨fun p s τ H Q I q => thn (h.run p s τ H _ I q) fun _ _ z => EP.fz z⟩

/-! ### names as values -/
/-- the slot's value; a list of the frame's own stands from now on -/
def sVar (i : Nat) : SS → O D := fun σ => match σ[i]? with
  | some (some (.val d)) => .ok d σ
  | some (some (.own (.lst ds))) => .ok (.lst ds) (σ.set i (some (.val (.lst ds))))
  | _ => .bad
theorem upd_frz_fx {H : Hp} {a : Addr} {vs : List V} {o : Obj} (h : H a = some (.lst vs)) : Fx H (upd H a (.frz o (.lst vs))) := Fx.upd h rfl
theorem rp_frz {C : Cn} {H : Hp} {a : Addr} {vs : List V} {ds : List D} {o : Obj} (h : H a = some (.lst vs)) (r : RpL C H ds vs) : Rp C (upd H a (.frz o (.lst vs))) (.lst ds) (.ref a) := by
  simp only [Rp]
  exact ⟨a, vs, rfl, .inl ⟨o, upd_same⟩, r.fx (upd_frz_fx h)⟩
theorem me_var {X : Cx} {C : Cn} (i : Nat) {x : Str} {pos : Pos} (hN : X.N[i]? = some x := by rfl) (hv : Vis X.env.scope x := by first | exact Or.inl rfl | exact Or.inr (Or.inl rfl) | exact Or.inr (Or.inr rfl)) (hd : (x == ("__debug__" : Str)) = false := by decide)
    (hcd : (x == ("__classdict__" : Str)) = false := by decide) : ME X C (.Name x pos) (sVar i) := by
  refine ⟨fun E W tk => (pe_fz (pv (X := X.wish E) i hN hv hd hcd)).imp fun τ H Q h => ?_⟩
  obtain ⟨G, σ, r, p⟩ := h
  unfold sVar at p
  show ∃ v, _
  split at p
  · rename_i d e
    obtain ⟨v, F, e1, r1, _⟩ := r.at e
    exact ⟨v, e1, .inl (p v H r1 r (.refl H))⟩
  · rename_i ds e
    obtain ⟨v, F, e1, a, e2, e3, vs, e4, r1⟩ := r.at e
    refine ⟨v, e1, .inr ⟨a, vs, e2, e4, fun o => ?_⟩⟩
    subst e2
    have r2 := rp_frz (o := o) e4 r1
    exact p _ _ r2 (r.write e e1 ⟨a, rfl, e3, vs, e4, r1⟩ (by rw [e3]; exact List.mem_singleton.mpr rfl) (upd_frz_fx e4) ⟨r2, rfl⟩ (fun b hb => by cases hb) e3) (upd_frz_fx e4)
  · exact p.elim

/-! ### operands: a value, or what a slot holds when it is asked -/
inductive Hd where | dat (d : D) | slot (i : Nat)
def look (σ : SS) (i : Nat) : Option D := match σ[i]? with
  | some (some (.val d)) => some d
  | some (some (.own (.lst ds))) => some (.lst ds)
  | some (some (.io _ (.lst ds))) => some (.lst ds)
  | _ => none
def res (σ : SS) : Hd → Option D
  | .dat d => some d
  | .slot i => look σ i
def RH (C : Cn) (τ : L2.St) (H : Hp) : Hd → V → Prop
  | .dat d, v => Rp C H d v
  | .slot i, v => τ[i]? = some (some v)
theorem RH.fx {C : Cn} {τ : L2.St} {H H' : Hp} {h : Hd} {v : V} (r : RH C τ H h v) (f : Fx H H') : RH C τ H' h v := by
  cases h with
  | dat d => exact Rp.fx f r
  | slot i => exact r
/-- data that is read now -/
def Rb (C : Cn) (H : Hp) : D → V → Prop
  | .lst ds, v => ∃ a vs, v = .ref a ∧ SqL C.K H a vs ∧ RpL C H ds vs
  | d, v => Rp C H d v
theorem Rp.rb {C : Cn} {H : Hp} {d : D} {v : V} (h : Rp C H d v) : Rb C H d v := by
  cases d with
  | lst ds =>
    simp only [Rp] at h
    obtain ⟨a, vs, e, s, r⟩ := h
    refine ⟨a, vs, e, ?_, r⟩
    rcases s with ⟨o, s⟩ | s
    · exact .inl (.inr ⟨o, s⟩)
    · exact .inr s
  | _ => exact h
theorem SR.res {C : Cn} {G : Gh} {H : Hp} {σ : SS} {τ : L2.St} {h : Hd} {v : V} {d : D} (r : SR C G H σ τ) (rh : RH C τ H h v) (e : res σ h = some d) : Rb C H d v := by
  cases h with
  | dat d' =>
    have : d' = d := Option.some.inj e
    subst this
    exact Rp.rb rh
  | slot i =>
    have e : look σ i = some d := e
    have rh : τ[i]? = some (some v) := rh
    unfold look at e
    split at e
    · rename_i d' q
      cases e
      obtain ⟨v', F, e1, r1, _⟩ := r.at q
      rw [rh] at e1; cases e1
      exact r1.rb
    · rename_i ds q
      cases e
      obtain ⟨v', F, e1, a, e2, e3, vs, e4, r1⟩ := r.at q
      rw [rh] at e1; cases e1
      exact ⟨a, vs, e2, .inl (.inl e4), r1⟩
    · rename_i k ds q
      cases e
      obtain ⟨v', F, e1, e2, e3, vs, e4, r1⟩ := r.at q
      rw [rh] at e1; cases e1
      exact ⟨_, vs, e2, .inl (.inl e4), r1⟩
    · cases e
abbrev tHd (C : Cn) (W : WX) (m : SS → O Hd) : TE := tG (RH C) C W m
structure MH (X : Cx) (C : Cn) (e : Expr) (m : SS → O Hd) : Prop where
  pe : ∀ E W, Takes (X.wish E) W → PE (X.wish E) e (tHd C W m)
def sHv (m : SS → O D) : SS → O Hd := fun σ => (m σ).bind fun d σ' => .ok (.dat d) σ'
theorem mh_val {X : Cx} {C : Cn} {e : Expr} {m : SS → O D} (h : ME X C e m) : MH X C e (sHv m) := by
  refine ⟨fun E W tk => (h.pe E W tk).imp fun τ H Q q => (tG_bind (R := fun _ => Rp C) q).mono fun x H1 ⟨d, r, f, G, σ, sr, p⟩ => p x H1 r sr (.refl _)⟩
def sHn (i : Nat) : SS → O Hd := fun σ => match σ[i]? with
  | some (some _) => .ok (.slot i) σ
  | _ => .bad
theorem mh_name {X : Cx} {C : Cn} (i : Nat) {x : Str} {pos : Pos} (hN : X.N[i]? = some x := by rfl) (hv : Vis X.env.scope x := by first | exact Or.inl rfl | exact Or.inr (Or.inl rfl) | exact Or.inr (Or.inr rfl)) (hd : (x == ("__debug__" : Str)) = false := by decide)
    (hcd : (x == ("__classdict__" : Str)) = false := by decide) : MH X C (.Name x pos) (sHn i) := by
  refine ⟨fun E W tk => (pv (X := X.wish E) i hN hv hd hcd).imp fun τ H Q h => ?_⟩
  obtain ⟨G, σ, r, p⟩ := h
  unfold sHn at p
  split at p
  · rename_i sd e
    obtain ⟨v, F, e1, r1⟩ := r.at e
    exact ⟨v, e1, p v H e1 r (.refl H)⟩
  · exact p.elim

/-! ### constants -/
def sC (d : D) : SS → O D := fun σ => .ok d σ
theorem tG_ret {β γ : Type} {R : L2.St → Hp → β → γ → Prop} {C : Cn} {W : WX} {τ : L2.St} {H : Hp} {Q : γ → Hp → Prop} {b : β} (h : tG R C W (fun σ => .ok b σ) τ H Q) : ∀ v, R τ H b v → Q v H := fun v r => by
  obtain ⟨G, σ, sr, p⟩ := h
  exact p v H r sr (.refl _)
section
variable {X : Cx} {C : Cn} {pos : Pos} {j : Nat}
theorem me_int {i : Int} : ME X C (.Constant (.int i) j pos) (sC (.int i)) := ⟨fun E W tk => pe_int.imp fun τ H Q h => tG_ret h _ (by simp only [Rp])⟩
theorem me_bl {b : Bool} : ME X C (.Constant (.bool b) j pos) (sC (.bl b)) := ⟨fun E W tk => pe_bl.imp fun τ H Q h => tG_ret h _ (by simp only [Rp])⟩
theorem me_non : ME X C (.Constant .none j pos) (sC .non) := ⟨fun E W tk => pe_non.imp fun τ H Q h => tG_ret h _ (by simp only [Rp])⟩
theorem me_str {x : Str} : ME X C (.Constant (.str x) j pos) (sC (.str x)) := ⟨fun E W tk => pe_str.imp fun τ H Q h => tG_ret h _ (by simp only [Rp])⟩
/-- a constant of the module: data in the written part -/
theorem me_glob {x : Str} {d : D} {v : V} {u : Value} (hg : Gl X x) (hm : X.mg x = some u) (r : RelV v u) (hd : ∀ H, Rp C H d v) (hdb : (x == ("__debug__" : Str)) = false := by decide) : ME X C (.Name x pos) (sC d) :=
  ⟨fun E W tk => (pe_glob (X := X.wish E) hg hm r hdb).imp fun τ H Q h => tG_ret h _ (hd H)⟩
end

/-! ### argument lists, displays -/
def sNil : SS → O (List D) := fun σ => .ok [] σ
def sCons (a : SS → O D) (m : SS → O (List D)) : SS → O (List D) := fun σ => (a σ).bind fun d σ1 => (m σ1).bind fun ds σ2 => .ok (d :: ds) σ2
section
variable {X : Cx} {C : Cn} {pos : Pos} {e : Expr} {es : List Expr} {a : SS → O D} {m : SS → O (List D)}
theorem ma_nil : MA X C [] sNil := ⟨fun E W tk => pa_nil.imp fun τ H Q h => tG_ret h _ .nil⟩
theorem ma_cons (ha : ME X C e a) (hm : MA X C es m) (hs : starEach (e :: es) X.env = (false, eval e X.env) :: starEach es X.env := by rfl) : MA X C (e :: es) (sCons a m) := by
  refine ⟨fun E W tk => (pa_cons (ha.pe E W tk) (hm.pa E W tk) hs).imp fun τ H Q h => ?_⟩
  refine (tG_bind (R := fun _ => Rp C) h).mono fun x H1 ⟨d, r1, f1, h1⟩ => ?_
  refine (tG_bind (R := fun _ => RpL C) h1).mono fun xs H2 ⟨ds, r2, f2, h2⟩ => ?_
  exact tG_ret h2 _ (.cons (r1.fx f2) r2)
def LIM : Nat := 16777216
theorem LIM_eq : sizeLine = LIM := sizeLine_eq
def sTup (m : SS → O (List D)) : SS → O D := fun σ => (m σ).bind fun ds σ' => if ds.length ≤ LIM then .ok (.tup ds) σ' else .bad
theorem me_tup {x1} (hm : MA X C es m) : ME X C (.Tuple es x1 pos) (sTup m) := by
  refine ⟨fun E W tk => (pe_tup (hm.pa E W tk)).imp fun τ H Q h => ?_⟩
  refine (tG_bind (R := fun _ => RpL C) h).mono fun xs H1 ⟨ds, r1, f1, G, σ, sr, p⟩ => ?_
  split at p
  · rename_i hl
    refine ⟨by rw [LIM_eq, r1.length]; exact hl, fun q hq => ?_⟩
    have s : Same H1 (upd H1 q (.tup xs)) := same_new hq
    exact p _ _ (by simp only [Rp]; exact ⟨q, xs, rfl, SqT.of upd_same, r1.fx (.of_same s)⟩) (sr.same s) (.of_same s)
  · exact p.elim

/-! ### new lists -/
def PostF (C : Cn) (W : WX) (τ : L2.St) (G : Gh) (H : Hp) (o : O (List D)) (Q : VK) : Prop := match o with
  | .bad => False
  | .ok ds σ' => ∀ a vs H', H' a = some (.lst vs) → RpL C H' ds vs → G.hp a = none → SR C ⟨upd G.hp a (.lst vs), G.at_⟩ H' σ' τ → Fx H H' → Q (.ref a) H'
  | .ex x σ' => ∀ cls d H', RX C H' x cls d → SR C G H' σ' τ → Fx H H' → W cls d τ H'
def tF (C : Cn) (W : WX) (m : SS → O (List D)) : TE := fun τ H Q => ∃ G σ, SR C G H σ τ ∧ PostF C W τ G H (m σ) Q
structure MF (X : Cx) (C : Cn) (e : Expr) (m : SS → O (List D)) : Prop where
  pe : ∀ E W, Takes (X.wish E) W → PE (X.wish E) e (tF C W m)
theorem tF_bind {β γ : Type} {R : L2.St → Hp → β → γ → Prop} {C : Cn} {W : WX} {m : SS → O β} {f : β → SS → O (List D)} {τ : L2.St} {H : Hp} {Q : VK} (h : tF C W (fun σ => (m σ).bind f) τ H Q) :
    tG R C W m τ H fun x H1 => ∃ b, R τ H1 b x ∧ Fx H H1 ∧ tF C W (f b) τ H1 Q := by
  obtain ⟨G, σ, r, p⟩ := h
  have p : PostF C W τ G H ((m σ).bind f) Q := p
  refine ⟨G, σ, r, ?_⟩
  cases e : m σ with
  | bad => rw [e] at p; exact p
  | ok b σ' =>
    rw [e] at p
    have p : PostF C W τ G H (f b σ') Q := p
    show ∀ v H', R τ H' b v → SR C G H' σ' τ → Fx H H' → _
    intro v H' a b1 c
    refine ⟨b, a, c, G, σ', b1, ?_⟩
    cases e2 : f b σ' with
    | bad => rw [e2] at p; exact p
    | ok b2 σ2 => rw [e2] at p; exact fun a2 vs2 H2 h1 h2 h3 h4 c2 => p a2 vs2 H2 h1 h2 h3 h4 (c.trans c2)
    | ex x2 σ2 => rw [e2] at p; exact fun cl d H2 a2 b2 c2 => p cl d H2 a2 b2 (c.trans c2)
  | ex x σ' => rw [e] at p; exact p
/-- a new list at p -/
theorem SR.new {C : Cn} {G : Gh} {H : Hp} {σ : SS} {τ : L2.St} {p : Addr} {o : HO} (h : SR C G H σ τ) (hp : H p = none) (no : notTbl o = true := by rfl) : G.hp p = none ∧ SR C ⟨upd G.hp p o, G.at_⟩ (upd H p o) σ τ := by
  refine ⟨?_, (h.same (same_new hp)).addG upd_same ⟨H, h, hp⟩ no⟩
  cases q : G.hp p with
  | none => rfl
  | some u => rw [h.gr p u q] at hp; cases hp
theorem mf_lst (hm : MA X C es m) : MF X C (.List es pos) (fun σ => (m σ).bind fun ds σ' => if ds.length ≤ LIM then .ok ds σ' else .bad) := by
  refine ⟨fun E W tk => (pe_lst (hm.pa E W tk)).imp fun τ H Q h => ?_⟩
  refine (tF_bind (R := fun _ => RpL C) h).mono fun xs H1 ⟨ds, r1, f1, G, σ, sr, p⟩ => ?_
  split at p
  · rename_i hl
    refine ⟨by rw [LIM_eq, r1.length]; exact hl, fun q hq => ?_⟩
    have s : Same H1 (upd H1 q (.lst xs)) := same_new hq
    obtain ⟨n, sr2⟩ := sr.new (o := .lst xs) hq
    exact p _ _ _ upd_same (r1.fx (.of_same s)) n sr2 (.of_same s)
  · exact p.elim
def sFz (m : SS → O (List D)) : SS → O D := fun σ => (m σ).bind fun ds σ' => .ok (.lst ds) σ'
theorem me_fz {e : Expr} (hm : MF X C e m) : ME X C e (sFz m) := by
  refine ⟨fun E W tk => (pe_fz (hm.pe E W tk)).imp fun τ H Q h => ?_⟩
  obtain ⟨G, σ, r, p⟩ := h
  have p : PostG (fun _ => Rp C) C W τ G H ((m σ).bind fun ds σ' => .ok (.lst ds) σ') Q := p
  refine ⟨G, σ, r, ?_⟩
  cases e : m σ with
  | bad => rw [e] at p; exact p
  | ex x σ' => rw [e] at p; exact p
  | ok ds σ' =>
    rw [e] at p
    intro a vs H' h1 h2 h3 h4 f
    refine .inr ⟨a, vs, rfl, h1, fun o => ?_⟩
    exact p _ _ (rp_frz h1 h2) (h4.fz h3 (upd_frz_fx h1)) (f.trans (upd_frz_fx h1))
end
end TL

set_option Elab.async false
set_option linter.all false
set_option maxRecDepth 100000
set_option maxHeartbeats 4000000
/-! TL3: operators, comparisons, tests, subscripts. -/
namespace TL
open PySem PySem.Spec PyProof.Rows L2

/-! ### room -/
structure TRoom (k : Nat) (A : Around) : Prop where
  hd : A.handled = none
  gd : A.guards = some []
  dp : A.depth + k + 20 < recursionLimit
  un : A.units + 16 * k + 400 < cLine
theorem TRoom.mono {j k : Nat} {A : Around} (r : TRoom k A) (h : j ≤ k) : TRoom j A := ⟨r.hd, r.gd, by have := r.dp; omega, by have := r.un; omega⟩
theorem TRoom.room {k : Nat} {A : Around} (r : TRoom k A) : Room 4 A := ⟨r.hd, by have := r.dp; omega, by have := r.un; omega⟩
theorem TRoom.u64 {k : Nat} {A : Around} (r : TRoom k A) : A.units + 300 < cLine := by have := r.un; omega

/-! ### data that the library reads -/
mutual
def toP : D → Option PyData
  | .non => some .none
  | .bl b => some (.bool b)
  | .int i => some (.int i)
  | .str x => some (.str x)
  | .tup ds => (toPL ds).map .tuple
  | .lst ds => (toPL ds).map .list
  | .cls _ | .fn _ _ | .exc _ _ | .err _ _ => none
def toPL : List D → Option (List PyData)
  | [] => some []
  | d :: ds => match toP d, toPL ds with
    | some p, some ps => some (p :: ps)
    | _, _ => none
end
mutual
theorem Rb.dp {C : Cn} {H : Hp} : ∀ {d : D} {v : V} {p : PyData}, Rb C H d v → toP d = some p → Dp C.K H v p
  | .non, v, p, h, e => by
    have h : v = .non := by simpa only [Rb, Rp] using h
    simp only [toP] at e; cases e; subst h; exact .non
  | .bl b, v, p, h, e => by
    have h : v = .bl b := by simpa only [Rb, Rp] using h
    simp only [toP] at e; cases e; subst h; exact .bl b
  | .int i, v, p, h, e => by
    have h : v = .int i := by simpa only [Rb, Rp] using h
    simp only [toP] at e; cases e; subst h; exact .int i
  | .str x, v, p, h, e => by
    have h : v = .str x := by simpa only [Rb, Rp] using h
    simp only [toP] at e; cases e; subst h; exact .str x
  | .tup ds, v, p, h, e => by
    have h : Rp C H (.tup ds) v := h
    simp only [Rp] at h
    simp only [toP] at e
    obtain ⟨a, vs, rfl, s, r⟩ := h
    cases q : toPL ds with
    | none => rw [q] at e; cases e
    | some ps => rw [q] at e; cases e; exact .tup s (RpL.dp r q)
  | .lst ds, v, p, h, e => by
    obtain ⟨a, vs, rfl, s, r⟩ := h
    simp only [toP] at e
    cases q : toPL ds with
    | none => rw [q] at e; cases e
    | some ps => rw [q] at e; cases e; exact .lst s (RpL.dp r q)
  | .cls _, _, _, _, e | .fn _ _, _, _, _, e | .exc _ _, _, _, _, e | .err _ _, _, _, _, e => by simp only [toP] at e; cases e
theorem RpL.dp {C : Cn} {H : Hp} : ∀ {ds : List D} {vs : List V} {ps : List PyData}, RpL C H ds vs → toPL ds = some ps → DpAll C.K H vs ps
  | [], vs, ps, h, e => by
    simp only [RpL] at h; simp only [toPL] at e
    cases e; subst h; exact .nil
  | d :: ds, vs, ps, h, e => by
    simp only [RpL] at h; simp only [toPL] at e
    obtain ⟨v, r, rfl, h1, h2⟩ := h
    cases q1 : toP d with
    | none => rw [q1] at e; cases e
    | some p =>
      cases q2 : toPL ds with
      | none => rw [q1, q2] at e; cases e
      | some ps' =>
        rw [q1, q2] at e; cases e
        exact .cons (Rb.dp h1.rb q1) (RpL.dp h2 q2)
end
/-! data whose texts are in order, of at most n levels -/
mutual
def ok : Nat → D → Bool
  | _, .non | _, .bl _ | _, .int _ => true
  | _, .str x => PyData.strOk x
  | 0, .tup _ | 0, .lst _ => false
  | n + 1, .tup ds => okL n ds
  | n + 1, .lst ds => okL n ds
  | _, .cls _ | _, .fn _ _ | _, .exc _ _ | _, .err _ _ => false
def okL : Nat → List D → Bool
  | _, [] => true
  | n, d :: ds => ok n d && okL n ds
end
/-! Python's == of data -/
mutual
def deq : D → D → Bool
  | .non, .non => true
  | .bl a, .bl b => a == b
  | .bl a, .int j => (if a then 1 else 0) == j
  | .int i, .bl b => i == (if b then 1 else 0)
  | .int i, .int j => i == j
  | .str x, .str y => x == y
  | .lst xs, .lst ys => deqL xs ys
  | .tup xs, .tup ys => deqL xs ys
  | _, _ => false
def deqL : List D → List D → Bool
  | [], [] => true
  | x :: xs, y :: ys => deq x y && deqL xs ys
  | _, _ => false
end
mutual
theorem ok_toP : ∀ {n : Nat} {d : D}, ok n d = true → ∃ p, toP d = some p ∧ p.canLay0 = true ∧ p.depth ≤ n
  | _, .non, _ => ⟨_, by simp only [toP]; rfl, by simp only [PyData.canLay0], by simp only [PyData.depth]; omega⟩
  | _, .bl b, _ => ⟨_, by simp only [toP]; rfl, by simp only [PyData.canLay0], by simp only [PyData.depth]; omega⟩
  | _, .int i, _ => ⟨_, by simp only [toP]; rfl, by simp only [PyData.canLay0], by simp only [PyData.depth]; omega⟩
  | _, .str x, h => ⟨_, by simp only [toP]; rfl, by simp only [ok] at h; simp only [PyData.canLay0]; exact h, by simp only [PyData.depth]; omega⟩
  | 0, .tup _, h | 0, .lst _, h => by simp [ok] at h
  | n + 1, .tup ds, h => by
    simp only [ok] at h
    obtain ⟨ps, e, c, d⟩ := okL_toPL h
    exact ⟨.tuple ps, by simp only [toP]; rw [e]; rfl, by simp only [PyData.canLay0]; exact c, by simp only [PyData.depth]; omega⟩
  | n + 1, .lst ds, h => by
    simp only [ok] at h
    obtain ⟨ps, e, c, d⟩ := okL_toPL h
    exact ⟨.list ps, by simp only [toP]; rw [e]; rfl, by simp only [PyData.canLay0]; exact c, by simp only [PyData.depth]; omega⟩
  | _, .cls _, h | _, .fn _ _, h | _, .exc _ _, h | _, .err _ _, h => by simp [ok] at h
theorem okL_toPL : ∀ {n : Nat} {ds : List D}, okL n ds = true → ∃ ps, toPL ds = some ps ∧ PyData.canLayAll0 ps = true ∧ PyData.depthAll ps ≤ n
  | _, [], _ => ⟨[], by simp only [toPL], by simp only [PyData.canLayAll0], by simp only [PyData.depthAll]; omega⟩
  | n, d :: ds, h => by
    simp only [okL, Bool.and_eq_true] at h
    obtain ⟨p, e1, c1, d1⟩ := ok_toP h.1
    obtain ⟨ps, e2, c2, d2⟩ := okL_toPL h.2
    exact ⟨p :: ps, by simp only [toPL]; rw [e1, e2], by simp only [PyData.canLayAll0, Bool.and_eq_true]; exact ⟨c1, c2⟩, by simp only [PyData.depthAll]; omega⟩
end
mutual
theorem toP_deq : ∀ {a b : D} {p q : PyData}, toP a = some p → toP b = some q → PyData.eqv p q = deq a b
  | .non, b, p, q, e1, e2 | .bl _, b, p, q, e1, e2 | .int _, b, p, q, e1, e2 | .str _, b, p, q, e1, e2 => by
    simp only [toP] at e1; cases e1
    cases b with
    | tup ds => simp only [toP] at e2; cases h : toPL ds with
      | none => rw [h] at e2; cases e2
      | some ps => rw [h] at e2; cases e2; simp only [PyData.eqv, deq]
    | lst ds => simp only [toP] at e2; cases h : toPL ds with
      | none => rw [h] at e2; cases e2
      | some ps => rw [h] at e2; cases e2; simp only [PyData.eqv, deq]
    | _ => simp only [toP] at e2; cases e2 <;> simp only [PyData.eqv, deq]
  | .tup ds, b, p, q, e1, e2 => by
    simp only [toP] at e1
    cases h : toPL ds with
    | none => rw [h] at e1; cases e1
    | some ps =>
      rw [h] at e1; cases e1
      cases b with
      | tup es => simp only [toP] at e2; cases h2 : toPL es with
        | none => rw [h2] at e2; cases e2
        | some qs => rw [h2] at e2; cases e2; simp only [PyData.eqv, deq]; exact toPL_deq h h2
      | lst es => simp only [toP] at e2; cases h2 : toPL es with
        | none => rw [h2] at e2; cases e2
        | some qs => rw [h2] at e2; cases e2; simp only [PyData.eqv, deq]
      | _ => simp only [toP] at e2; cases e2 <;> simp only [PyData.eqv, deq]
  | .lst ds, b, p, q, e1, e2 => by
    simp only [toP] at e1
    cases h : toPL ds with
    | none => rw [h] at e1; cases e1
    | some ps =>
      rw [h] at e1; cases e1
      cases b with
      | tup es => simp only [toP] at e2; cases h2 : toPL es with
        | none => rw [h2] at e2; cases e2
        | some qs => rw [h2] at e2; cases e2; simp only [PyData.eqv, deq]
      | lst es => simp only [toP] at e2; cases h2 : toPL es with
        | none => rw [h2] at e2; cases e2
        | some qs => rw [h2] at e2; cases e2; simp only [PyData.eqv, deq]; exact toPL_deq h h2
      | _ => simp only [toP] at e2; cases e2 <;> simp only [PyData.eqv, deq]
  | .cls _, _, _, _, e, _ | .fn _ _, _, _, _, e, _ | .exc _ _, _, _, _, e, _ | .err _ _, _, _, _, e, _ => by simp only [toP] at e; cases e
theorem toPL_deq : ∀ {a b : List D} {p q : List PyData}, toPL a = some p → toPL b = some q → PyData.eqvAll p q = deqL a b
  | [], b, p, q, e1, e2 => by
    simp only [toPL] at e1; cases e1
    cases b with
    | nil => simp only [toPL] at e2; cases e2; simp only [PyData.eqvAll, deqL]
    | cons y ys =>
      simp only [toPL] at e2
      split at e2
      · cases e2; simp only [PyData.eqvAll, deqL]
      · cases e2
  | x :: xs, b, p, q, e1, e2 => by
    simp only [toPL] at e1
    split at e1
    · rename_i p1 ps h1 h2
      cases e1
      cases b with
      | nil => simp only [toPL] at e2; cases e2; simp only [PyData.eqvAll, deqL]
      | cons y ys =>
        simp only [toPL] at e2
        split at e2
        · rename_i q1 qs h3 h4
          cases e2
          simp only [PyData.eqvAll, deqL]
          rw [toP_deq h1 h3, toPL_deq h2 h4]
        · cases e2
    · cases e1
end

/-! ### operators by values -/
/-- what an operator gives: an f of the data -/
def rD (C : Cn) (f : D → D → Option D) : R2 := fun x y H Q => ∃ a b d, Rb C H a x ∧ Rb C H b y ∧ f a b = some d ∧ ∀ r H', Same H H' → Rp C H' d r → Q r H'
section
variable {X : Cx} {C : Cn} {a b : Expr} {ma mb : SS → O Hd} {pos : Pos}
def sOp (f : D → D → Option D) (ma mb : SS → O Hd) : SS → O D := fun σ => (ma σ).bind fun h1 σ1 => (mb σ1).bind fun h2 σ2 => match res σ2 h1, res σ2 h2 with
  | some x, some y => ofOpt (f x y) σ2
  | _, _ => .bad
theorem op_core {f : D → D → Option D} {W : WX} {τ : L2.St} {H : Hp} {Q : VK} (h : tE C W (sOp f ma mb) τ H Q) : tOp (rD C f) (tHd C W ma) (tHd C W mb) τ H Q := by
  refine (tG_bind (R := RH C) h).mono fun x H1 ⟨h1, r1, f1, q1⟩ => ?_
  refine (tG_bind (R := RH C) q1).mono fun y H2 ⟨h2, r2, f2, G, σ, sr, p⟩ => ?_
  dsimp only at p
  split at p
  · rename_i d1 d2 e1 e2
    refine ⟨d1, d2, ?_⟩
    cases e : f d1 d2 with
    | none => rw [e] at p; exact p.elim
    | some d =>
      rw [e] at p
      exact ⟨d, sr.res (r1.fx f2) e1, sr.res r2 e2, rfl, fun r H' s q => p r H' q (sr.same s) (.of_same s)⟩
  · exact p.elim
theorem me_op {op : Operator} {f : D → D → Option D} (ho : ∀ E, OpR (X.wish E) (binaryOp op) (rD C f)) (ha : MH X C a ma) (hb : MH X C b mb) : ME X C (.BinOp a op b pos) (sOp f ma mb) :=
  ⟨fun E W tk => (pe_op (ho E) (ha.pe E W tk) (hb.pe E W tk)).imp fun _ _ _ h => op_core h⟩
theorem me_cmp {op : CmpOp} {f : D → D → Option D} (ho : ∀ E, OpR (X.wish E) (compareOp op) (rD C f)) (ha : MH X C a ma) (hb : MH X C b mb) (hm : behindInMarks op b = false) : ME X C (.Compare a [op] [b] pos) (sOp f ma mb) :=
  ⟨fun E W tk => (pe_cmpR (ho E) (ha.pe E W tk) (hb.pe E W tk) hm).imp fun _ _ _ h => op_core h⟩
end

theorem Rp.i {C : Cn} {H : Hp} {i : Int} : Rp C H (.int i) (.int i) := by simp only [Rp]
theorem Rp.b {C : Cn} {H : Hp} {b : Bool} : Rp C H (.bl b) (.bl b) := by simp only [Rp]
theorem Rp.s {C : Cn} {H : Hp} {x : Str} : Rp C H (.str x) (.str x) := by simp only [Rp]
theorem Rp.n {C : Cn} {H : Hp} : Rp C H .non .non := by simp only [Rp]
theorem Rb.int {C : Cn} {H : Hp} {i : Int} {v : V} (h : Rb C H (.int i) v) : v = .int i := by simpa only [Rb, Rp] using h
theorem Rb.bl {C : Cn} {H : Hp} {i : Bool} {v : V} (h : Rb C H (.bl i) v) : v = .bl i := by simpa only [Rb, Rp] using h
theorem Rb.str {C : Cn} {H : Hp} {i : Str} {v : V} (h : Rb C H (.str i) v) : v = .str i := by simpa only [Rb, Rp] using h
theorem Rb.non {C : Cn} {H : Hp} {v : V} (h : Rb C H .non v) : v = .non := by simpa only [Rb, Rp] using h
theorem Rb.tup {C : Cn} {H : Hp} {ds : List D} {v : V} (h : Rb C H (.tup ds) v) : ∃ a vs, v = .ref a ∧ SqT C.K H a vs ∧ RpL C H ds vs := by simpa only [Rb, Rp] using h
theorem Rb.lst {C : Cn} {H : Hp} {ds : List D} {v : V} (h : Rb C H (.lst ds) v) : ∃ a vs, v = .ref a ∧ SqL C.K H a vs ∧ RpL C H ds vs := h
theorem rp_tup {C : Cn} {H : Hp} {a : Addr} {vs : List V} {ds : List D} (h : SqT C.K H a vs) (r : RpL C H ds vs) : Rp C H (.tup ds) (.ref a) := by simp only [Rp]; exact ⟨a, vs, rfl, h, r⟩
theorem RpL.nilL {C : Cn} {H : Hp} {ds : List D} (h : RpL C H ds []) : ds = [] := by
  cases ds with
  | nil => rfl
  | cons d ds => simp only [RpL] at h; obtain ⟨_, _, e, _⟩ := h; cases e
theorem RpL.nilR {C : Cn} {H : Hp} {vs : List V} (h : RpL C H [] vs) : vs = [] := by simpa only [RpL] using h

/-- list + list, whatever stands there -/
theorem op_catL {X : Cx} : OpR X (binaryOp .Add) (fun x y H Q => ∃ l b xs zs, x = .ref l ∧ y = .ref b ∧ SqL X.K H l xs ∧ SqL X.K H b zs ∧ xs.length + zs.length ≤ sizeLine ∧ ∀ p, H p = none → Q (.ref p) (upd H p (.lst (xs ++ zs)))) := by
  intro pins s σ H x y v u Q I rx ry h
  obtain ⟨l, b, xs, zs, rfl, rfl, hH, hB, hz, q⟩ := h
  cases rx
  cases ry
  obtain ⟨its, r, ⟨⟨c1, d1, da1, sl1⟩, n, e, hc, hd, hda⟩, _⟩ := I.list hH
  obtain ⟨its2, r2, ⟨⟨c2, d2, da2, sl2⟩, n2, e2, hc2, hd2, hda2⟩, _⟩ := I.list hB
  simp only at hc hd hda hc2 hd2 hda2
  subst hc hd hda hc2 hd2 hda2
  have hl := r.length
  have hl2 := r2.length
  refine concat_meets ⟨_, e, rfl⟩ ⟨_, e2, rfl⟩ noFill_list_add seq_list_add F.slot_list_add F.entry_list_add (F.args_list_add_2 _ _) (list_addW l b its.toArray its2.toArray n n2 none none sl1 sl2 (by rw [List.size_toArray, List.size_toArray]; omega)) ⟨e, e2, ?_⟩
  have ea : its.toArray ++ its2.toArray = (its ++ its2).toArray := by simp
  rw [ea]
  exact ⟨.ref _, _, I.lnew (t' := s.toks) (r.append r2) (by rw [List.length_append]; omega), rfl, q _ I.fresh⟩
end TL

set_option Elab.async false
set_option linter.all false
set_option maxRecDepth 100000
set_option maxHeartbeats 4000000
/-! TL4: the operators one by one. -/
namespace TL
open PySem PySem.Spec PyProof.Rows L2

def W64 (i : Int) : Bool := decide (-18446744073709551616 < i) && decide (i < 18446744073709551616)
def opAdd : D → D → Option D
  | .int i, .int j => some (.int (i + j))
  | .str x, .str y => if x.length + y.length ≤ LIM then some (.str (x ++ y)) else none
  | .tup xs, .tup ys => if xs.length + ys.length ≤ LIM then some (.tup (xs ++ ys)) else none
  | .lst xs, .lst ys => if xs.length + ys.length ≤ LIM then some (.lst (xs ++ ys)) else none
  | _, _ => none
def opSub : D → D → Option D
  | .int i, .int j => some (.int (i - j))
  | _, _ => none
def opMul : D → D → Option D
  | .int i, .int j => if W64 i || W64 j || decide (i.natAbs.log2 + j.natAbs.log2 < 1000000) then some (.int (i * j)) else none
  | .tup xs, .int k => if xs ≠ [] ∧ 2 ≤ k ∧ k ≤ 1000 ∧ xs.length ≤ 1000 then some (.tup (List.replicate k.toNat xs).flatten) else none
  | .str x, .int k => if -1000 ≤ k ∧ k ≤ 4000 ∧ x.length ≤ 4000 then some (.str (Txt.mul x k)) else none
  | _, _ => none
def opFdiv : D → D → Option D
  | .int i, .int j => if 0 < j ∧ j.natAbs.log2 < 9000 then some (.int (i / j)) else none
  | _, _ => none
def opMod : D → D → Option D
  | .int i, .int j => if 0 < j then some (.int (i % j)) else none
  | _, _ => none
def opPow : D → D → Option D
  | .int i, .int j => if 0 ≤ j ∧ j ≤ 1000000 ∧ (W64 i = true ∨ (i.natAbs.log2 + 1 : Int) * j ≤ 134217728) then some (.int (i ^ j.toNat)) else none
  | _, _ => none
theorem W64_iff {i : Int} (h : W64 i = true) : -(2 ^ 64) < i ∧ i < 2 ^ 64 := by
  simp only [W64, Bool.and_eq_true, decide_eq_true_eq] at h
  omega
section
variable {X : Cx} {C : Cn}
theorem op_addD (hK : X.K = C.K) : OpR X (binaryOp .Add) (rD C opAdd) := by
  intro p s τ H x y v u Q I rx ry ⟨a, b, d, ra, rb, e, k⟩
  unfold opAdd at e
  split at e
  · cases e
    have := ra.int; subst this
    have := rb.int; subst this
    exact op_add p s τ H _ _ v u Q I rx ry ⟨_, _, rfl, rfl, k _ H (.refl H) .i⟩
  · split at e
    · rename_i hl
      cases e
      have := ra.str; subst this
      have := rb.str; subst this
      exact op_add_str p s τ H _ _ v u Q I rx ry ⟨_, _, rfl, rfl, by rw [LIM_eq]; exact hl, k _ H (.refl H) .s⟩
    · cases e
  · rename_i xs ys
    split at e
    · rename_i hl
      cases e
      obtain ⟨a, vs, rfl, s1, r1⟩ := ra.tup
      obtain ⟨b, ws, rfl, s2, r2⟩ := rb.tup
      refine op_catA p s τ H _ _ v u Q I rx ry ⟨a, b, vs, ws, rfl, rfl, hK ▸ s1, hK ▸ s2, by rw [LIM_eq, r1.length, r2.length]; exact hl, fun z => ?_, fun _ z => ?_, fun _ _ q hq => ?_⟩
      · subst z
        have := r1.nilL; subst this
        exact k _ H (.refl H) (rp_tup s2 r2)
      · subst z
        have := r2.nilL; subst this
        rw [List.append_nil] at k
        exact k _ H (.refl H) (rp_tup s1 r1)
      · have sm : Same H (upd H q (.tup (vs ++ ws))) := same_new hq
        exact k _ _ sm (rp_tup (SqT.of upd_same) ((r1.append r2).fx (.of_same sm)))
    · cases e
  · rename_i xs ys
    split at e
    · rename_i hl
      cases e
      obtain ⟨a, vs, rfl, s1, r1⟩ := ra.lst
      obtain ⟨b, ws, rfl, s2, r2⟩ := rb.lst
      refine thn (op_catL p s τ H _ _ v u (FzQ Q) I rx ry ⟨a, b, vs, ws, rfl, rfl, hK ▸ s1, hK ▸ s2, by rw [LIM_eq, r1.length, r2.length]; exact hl, fun q hq => ?_⟩) fun _ _ z => EP.fz z
      have sm : Same H (upd H q (.lst (vs ++ ws))) := same_new hq
      refine .inr ⟨q, _, rfl, upd_same, fun o => ?_⟩
      have sm2 : Same H (upd (upd H q (.lst (vs ++ ws))) q (.frz o (.lst (vs ++ ws)))) := by rw [upd_upd]; exact same_new hq
      exact k _ _ sm2 (rp_frz upd_same ((r1.append r2).fx (.of_same sm)))
    · cases e
  · cases e
theorem op_subD : OpR X (binaryOp .Sub) (rD C opSub) := by
  intro p s τ H x y v u Q I rx ry ⟨a, b, d, ra, rb, e, k⟩
  unfold opSub at e
  split at e
  · cases e
    have := ra.int; subst this
    have := rb.int; subst this
    exact op_sub p s τ H _ _ v u Q I rx ry ⟨_, _, rfl, rfl, k _ H (.refl H) .i⟩
  · cases e
theorem op_mulD (hK : X.K = C.K) : OpR X (binaryOp .Mult) (rD C opMul) := by
  intro p s τ H x y v u Q I rx ry ⟨a, b, d, ra, rb, e, k⟩
  unfold opMul at e
  split at e
  · split at e
    · rename_i i j hc
      cases e
      have := ra.int; subst this
      have := rb.int; subst this
      simp only [Bool.or_eq_true, decide_eq_true_eq] at hc
      rcases hc with (hc | hc) | hc
      · exact op_mul p s τ H _ _ v u Q I rx ry ⟨_, _, rfl, rfl, .inl (W64_iff hc), k _ H (.refl H) .i⟩
      · exact op_mul p s τ H _ _ v u Q I rx ry ⟨_, _, rfl, rfl, .inr (W64_iff hc), k _ H (.refl H) .i⟩
      · exact op_mulW p s τ H _ _ v u Q I rx ry ⟨_, _, rfl, rfl, hc, k _ H (.refl H) .i⟩
    · cases e
  · rename_i xs j
    split at e
    · rename_i hc
      cases e
      obtain ⟨a, vs, rfl, s1, r1⟩ := ra.tup
      have := rb.int; subst this
      have hrep : ∀ n, RpL C H (List.replicate n xs).flatten (List.replicate n vs).flatten := fun n => by
        induction n with
        | zero => exact .nil
        | succ n ih => simp only [List.replicate_succ, List.flatten_cons]; exact r1.append ih
      refine op_repT p s τ H _ _ v u Q I rx ry ⟨a, j, vs, rfl, rfl, hK ▸ s1, fun z => hc.1 ?_, hc.2.1, hc.2.2.1, by rw [r1.length]; exact hc.2.2.2, fun q hq => ?_⟩
      · subst z; exact r1.nilL
      · have sm : Same H (upd H q (.tup (List.replicate j.toNat vs).flatten)) := same_new hq
        exact k _ _ sm (rp_tup (SqT.of upd_same) ((hrep _).fx (.of_same sm)))
    · cases e
  · rename_i x j
    split at e
    · rename_i hc
      cases e
      have := ra.str; subst this
      have := rb.int; subst this
      obtain ⟨t1, rfl⟩ := rx
      obtain ⟨t2, rfl⟩ := ry
      refine PySem.SB.mul ⟨?_, fun h1 _ => ?_, fun h1 _ => ?_⟩ fun t' kk => ⟨.str (Txt.mul x j), H, I.tok kk, ⟨t', rfl⟩, k _ H (.refl H) .s⟩
      · simp only [Bool.or_eq_false_iff, decide_eq_false_iff_not]
        omega
      · have : (4000 : Int) ≤ (2 ^ 63 - 1) / j := (Int.le_ediv_iff_mul_le (by omega)).mpr (by omega)
        have := hc.2.2
        omega
      · unfold PySem.Builtin.Str.tooLong
        rw [decide_eq_false_iff_not, LIM_eq]
        have h2 : j.toNat ≤ 4000 := by omega
        have := Nat.mul_le_mul hc.2.2 h2
        unfold LIM
        omega
    · cases e
  · cases e
theorem op_fdivD : OpR X (binaryOp .FloorDiv) (rD C opFdiv) := by
  intro p s τ H x y v u Q I rx ry ⟨a, b, d, ra, rb, e, k⟩
  unfold opFdiv at e
  split at e
  · split at e
    · rename_i hc
      cases e
      have := ra.int; subst this
      have := rb.int; subst this
      exact op_fdivW p s τ H _ _ v u Q I rx ry ⟨_, _, rfl, rfl, hc, k _ H (.refl H) .i⟩
    · cases e
  · cases e
theorem op_modD : OpR X (binaryOp .Mod) (rD C opMod) := by
  intro p s τ H x y v u Q I rx ry ⟨a, b, d, ra, rb, e, k⟩
  unfold opMod at e
  split at e
  · split at e
    · rename_i hc
      cases e
      have := ra.int; subst this
      have := rb.int; subst this
      exact op_mod p s τ H _ _ v u Q I rx ry ⟨_, _, rfl, rfl, hc, k _ H (.refl H) .i⟩
    · cases e
  · cases e
theorem op_powD : OpR X (binaryOp .Pow) (rD C opPow) := by
  intro p s τ H x y v u Q I rx ry ⟨a, b, d, ra, rb, e, k⟩
  unfold opPow at e
  split at e
  · rename_i i j
    split at e
    · rename_i hc
      cases e
      have := ra.int; subst this
      have := rb.int; subst this
      rcases hc.2.2 with h6 | h6
      · have h64 := W64_iff h6
        exact op_pow p s τ H _ _ v u Q I rx ry ⟨_, _, rfl, rfl, ⟨hc.1, hc.2.1, by omega⟩, k _ H (.refl H) .i⟩
      · obtain ⟨t1, rfl⟩ := rx
        obtain ⟨t2, rfl⟩ := ry
        refine PyProof.Rows.pow_int hc.1 ?_ ⟨.int (i ^ j.toNat), H, I.tok _, ⟨_, rfl⟩, k _ H (.refl H) .i⟩
        have b : (Builtin.Int.intBits i : Int) ≤ i.natAbs.log2 + 1 := by
          unfold Builtin.Int.intBits
          split <;> omega
        have := Int.mul_le_mul_of_nonneg_right b hc.1
        have e27 : (2 : Int) ^ 27 = 134217728 := by decide
        omega
    · cases e
  · cases e

/-! ### comparisons -/
def cEq (a b : D) : Option D := if ok 200 a && ok 200 b then some (.bl (deq a b)) else none
def cNe (a b : D) : Option D := if ok 200 a && ok 200 b then some (.bl (!deq a b)) else none
theorem op_eqT (hK : X.K = C.K) {n : Nat} (hr : TRoom n X.A) : OpR X (compareOp .Eq) (rD C cEq) := by
  intro p s τ H x y v u Q I rx ry ⟨a, b, d, ra, rb, e, k⟩
  unfold cEq at e
  split at e
  · rename_i hc
    rw [Bool.and_eq_true] at hc
    cases e
    obtain ⟨pa, ea, ca, da⟩ := ok_toP hc.1
    obtain ⟨pb, eb, cb, db⟩ := ok_toP hc.2
    obtain ⟨as, r1⟩ := Dp.reads I pa x v (hK ▸ ra.dp ea) rx
    obtain ⟨bs, r2⟩ := Dp.reads I pb y u (hK ▸ rb.dp eb) ry
    have hu := hr.u64
    refine SeqAt.compareEq_reads r1 r2 ca cb (by omega) ⟨.bl _, H, I, rfl, ?_⟩
    rw [toP_deq ea eb]
    exact k _ H (.refl H) .b
  · cases e
theorem op_neT (hK : X.K = C.K) {n : Nat} (hr : TRoom n X.A) : OpR X (compareOp .NotEq) (rD C cNe) := by
  intro p s τ H x y v u Q I rx ry ⟨a, b, d, ra, rb, e, k⟩
  unfold cNe at e
  split at e
  · rename_i hc
    rw [Bool.and_eq_true] at hc
    cases e
    obtain ⟨pa, ea, ca, da⟩ := ok_toP hc.1
    obtain ⟨pb, eb, cb, db⟩ := ok_toP hc.2
    obtain ⟨as, r1⟩ := Dp.reads I pa x v (hK ▸ ra.dp ea) rx
    obtain ⟨bs, r2⟩ := Dp.reads I pb y u (hK ▸ rb.dp eb) ry
    have hu := hr.u64
    refine SeqAt.compareNe_reads r1 r2 ca cb (by omega) ⟨.bl _, H, I, rfl, ?_⟩
    rw [toP_deq ea eb]
    exact k _ H (.refl H) .b
  · cases e
/-- order of ints, of texts -/
def cLt : D → D → Option D
  | .int i, .int j => some (.bl (decide (i < j)))
  | .str x, .str y => some (.bl (decide (x.cps.toList < y.cps.toList)))
  | _, _ => none
def cLe : D → D → Option D
  | .int i, .int j => some (.bl (decide (i ≤ j)))
  | .str x, .str y => some (.bl (!decide (y.cps.toList < x.cps.toList)))
  | _, _ => none
def cGt : D → D → Option D
  | .int i, .int j => some (.bl (decide (j < i)))
  | .str x, .str y => some (.bl (decide (y.cps.toList < x.cps.toList)))
  | _, _ => none
def cGe : D → D → Option D
  | .int i, .int j => some (.bl (decide (j ≤ i)))
  | .str x, .str y => some (.bl (!decide (x.cps.toList < y.cps.toList)))
  | _, _ => none
theorem op_ltD : OpR X (compareOp .Lt) (rD C cLt) := by
  intro p s τ H x y v u Q I rx ry ⟨a, b, d, ra, rb, e, k⟩
  unfold cLt at e
  split at e
  · cases e; have := ra.int; subst this; have := rb.int; subst this
    exact op_lt p s τ H _ _ v u Q I rx ry ⟨_, _, rfl, rfl, k _ H (.refl H) .b⟩
  · cases e; have := ra.str; subst this; have := rb.str; subst this
    exact op_lt_str p s τ H _ _ v u Q I rx ry ⟨_, _, rfl, rfl, k _ H (.refl H) .b⟩
  · cases e
theorem op_leD : OpR X (compareOp .LtE) (rD C cLe) := by
  intro p s τ H x y v u Q I rx ry ⟨a, b, d, ra, rb, e, k⟩
  unfold cLe at e
  split at e
  · cases e; have := ra.int; subst this; have := rb.int; subst this
    exact op_le p s τ H _ _ v u Q I rx ry ⟨_, _, rfl, rfl, k _ H (.refl H) .b⟩
  · cases e; have := ra.str; subst this; have := rb.str; subst this
    exact op_le_str p s τ H _ _ v u Q I rx ry ⟨_, _, rfl, rfl, k _ H (.refl H) .b⟩
  · cases e
theorem op_gtD : OpR X (compareOp .Gt) (rD C cGt) := by
  intro p s τ H x y v u Q I rx ry ⟨a, b, d, ra, rb, e, k⟩
  unfold cGt at e
  split at e
  · cases e; have := ra.int; subst this; have := rb.int; subst this
    exact op_gt p s τ H _ _ v u Q I rx ry ⟨_, _, rfl, rfl, k _ H (.refl H) .b⟩
  · cases e; have := ra.str; subst this; have := rb.str; subst this
    exact op_gt_str p s τ H _ _ v u Q I rx ry ⟨_, _, rfl, rfl, k _ H (.refl H) .b⟩
  · cases e
theorem op_geD : OpR X (compareOp .GtE) (rD C cGe) := by
  intro p s τ H x y v u Q I rx ry ⟨a, b, d, ra, rb, e, k⟩
  unfold cGe at e
  split at e
  · cases e; have := ra.int; subst this; have := rb.int; subst this
    exact op_ge p s τ H _ _ v u Q I rx ry ⟨_, _, rfl, rfl, k _ H (.refl H) .b⟩
  · cases e; have := ra.str; subst this; have := rb.str; subst this
    exact op_ge_str p s τ H _ _ v u Q I rx ry ⟨_, _, rfl, rfl, k _ H (.refl H) .b⟩
  · cases e
/-- is None -/
def isNon : D → Bool
  | .non => true
  | _ => false
theorem Rb.nonq {H : Hp} {d : D} {v : V} (h : Rb C H d v) : decide (v = .non) = isNon d := by
  cases d with
  | non => rw [h.non]; rfl
  | bl b => rw [h.bl]; rfl
  | int i => rw [h.int]; rfl
  | str x => rw [h.str]; rfl
  | tup ds => obtain ⟨a, vs, rfl, _⟩ := h.tup; rfl
  | lst ds => obtain ⟨a, vs, rfl, _⟩ := h.lst; rfl
  | cls i => have h : v = .ref (C.ca i) := by simpa only [Rb, Rp] using h
             subst h; rfl
  | fn i cap =>
    have h : Rp C H (.fn i cap) v := h
    simp only [Rp] at h
    obtain ⟨_, rfl⟩ := h; rfl
  | exc c d =>
    have h : Rp C H (.exc c d) v := h
    simp only [Rp] at h
    obtain ⟨a, _, _, _, rfl, _⟩ := h; rfl
  | err c d =>
    have h : Rp C H (.err c d) v := h
    simp only [Rp] at h
    obtain ⟨a, _, _, _, _, rfl, _⟩ := h; rfl
def cIs (a b : D) : Option D := match b with
  | .non => some (.bl (isNon a))
  | .bl q => match a with | .bl p => some (.bl (decide (p = q))) | _ => none
  | _ => none
def cIsNot (a b : D) : Option D := match b with
  | .non => some (.bl (!isNon a))
  | .bl q => match a with | .bl p => some (.bl (!decide (p = q))) | _ => none
  | _ => none
theorem op_isD : OpR X (compareOp .Is) (rD C cIs) := by
  intro p s τ H x y v u Q I rx ry ⟨a, b, d, ra, rb, e, k⟩
  unfold cIs at e
  split at e
  · cases e; have := rb.non; subst this
    refine op_isN p s τ H _ _ v u Q I rx ry ⟨rfl, ?_⟩
    rw [ra.nonq]
    exact k _ H (.refl H) .b
  · split at e
    · cases e; have := rb.bl; subst this; have := ra.bl; subst this
      exact op_is_bl p s τ H _ _ v u Q I rx ry ⟨_, _, rfl, rfl, k _ H (.refl H) .b⟩
    · cases e
  · cases e
theorem op_isNotD : OpR X (compareOp .IsNot) (rD C cIsNot) := by
  intro p s τ H x y v u Q I rx ry ⟨a, b, d, ra, rb, e, k⟩
  unfold cIsNot at e
  split at e
  · cases e; have := rb.non; subst this
    refine op_notN p s τ H _ _ v u Q I rx ry ⟨rfl, ?_⟩
    rw [ra.nonq]
    exact k _ H (.refl H) .b
  · split at e
    · cases e; have := rb.bl; subst this; have := ra.bl; subst this
      exact op_isnot_bl p s τ H _ _ v u Q I rx ry ⟨_, _, rfl, rfl, k _ H (.refl H) .b⟩
    · cases e
  · cases e
end
end TL

set_option Elab.async false
set_option linter.all false
set_option maxRecDepth 100000
set_option maxHeartbeats 4000000
/-! TL5: in, truth, tests, subscripts, slices, built-in calls. -/
namespace TL
open PySem PySem.Spec PyProof.Rows L2

/-! ### in -/
def hasSub (j i : Str) : Bool := !(Builtin.Str.occurrences j i 0 j.length 1).isEmpty
def inD (a b : D) : Option Bool := match b with
  | .str y => match a with | .str x => some (hasSub y x) | _ => none
  | .tup ds => if ok 200 a && okL 200 ds then some (ds.any fun z => deq z a) else none
  | .lst ds => if ok 200 a && okL 200 ds then some (ds.any fun z => deq z a) else none
  | _ => none
def cIn (a b : D) : Option D := (inD a b).map .bl
def cNotIn (a b : D) : Option D := (inD a b).map fun k => .bl (!k)
theorem any_toPL {d : D} {p : PyData} (e : toP d = some p) : ∀ {ds : List D} {ps : List PyData}, toPL ds = some ps → (ps.any fun z => PyData.eqv z p) = ds.any fun z => deq z d
  | [], ps, h => by simp only [toPL] at h; cases h; rfl
  | x :: xs, ps, h => by
    simp only [toPL] at h
    split at h
    · rename_i q qs h1 h2
      cases h
      rw [List.any_cons, List.any_cons, toP_deq h1 e, any_toPL e h2]
    · cases h
section
variable {X : Cx} {C : Cn}
theorem op_inT (hK : X.K = C.K) {n : Nat} (hr : TRoom n X.A) : OpR X (compareOp .In) (rD C cIn) := by
  intro p s τ H x y v u Q I rx ry ⟨a, b, d, ra, rb, e, k⟩
  have hu := hr.u64
  unfold cIn inD at e
  split at e
  · split at e
    · cases e
      have := ra.str; subst this
      have := rb.str; subst this
      exact op_in_str p s τ H _ _ v u Q I rx ry ⟨_, _, rfl, rfl, k _ H (.refl H) .b⟩
    · cases e
  · rename_i ds
    split at e
    · rename_i hc
      rw [Bool.and_eq_true] at hc
      cases e
      obtain ⟨pa, ea, ca, da⟩ := ok_toP hc.1
      obtain ⟨ps, eb, cb, db⟩ := okL_toPL hc.2
      obtain ⟨as, r1⟩ := Dp.reads I pa x v (hK ▸ ra.dp ea) rx
      obtain ⟨bs, r2⟩ := Dp.reads I (.tuple ps) y u (hK ▸ rb.dp (by simp only [toP]; rw [eb]; rfl)) ry
      refine SeqAt.in_tuple_reads r2 r1 cb ca (by omega) ⟨.bl _, H, I, rfl, ?_⟩
      rw [any_toPL ea eb]
      exact k _ H (.refl H) .b
    · cases e
  · rename_i ds
    split at e
    · rename_i hc
      rw [Bool.and_eq_true] at hc
      cases e
      obtain ⟨pa, ea, ca, da⟩ := ok_toP hc.1
      obtain ⟨ps, eb, cb, db⟩ := okL_toPL hc.2
      obtain ⟨as, r1⟩ := Dp.reads I pa x v (hK ▸ ra.dp ea) rx
      obtain ⟨bs, r2⟩ := Dp.reads I (.list ps) y u (hK ▸ rb.dp (by simp only [toP]; rw [eb]; rfl)) ry
      refine SeqAt.in_list_reads r2 r1 cb ca (by omega) ⟨.bl _, H, I, rfl, ?_⟩
      rw [any_toPL ea eb]
      exact k _ H (.refl H) .b
    · cases e
  · cases e
theorem op_notInT (hK : X.K = C.K) {n : Nat} (hr : TRoom n X.A) : OpR X (compareOp .NotIn) (rD C cNotIn) := by
  intro p s τ H x y v u Q I rx ry ⟨a, b, d, ra, rb, e, k⟩
  have hu := hr.u64
  unfold cNotIn inD at e
  split at e
  · split at e
    · cases e
      have := ra.str; subst this
      have := rb.str; subst this
      exact op_notin_str p s τ H _ _ v u Q I rx ry ⟨_, _, rfl, rfl, k _ H (.refl H) .b⟩
    · cases e
  · rename_i ds
    split at e
    · rename_i hc
      rw [Bool.and_eq_true] at hc
      cases e
      obtain ⟨pa, ea, ca, da⟩ := ok_toP hc.1
      obtain ⟨ps, eb, cb, db⟩ := okL_toPL hc.2
      obtain ⟨as, r1⟩ := Dp.reads I pa x v (hK ▸ ra.dp ea) rx
      obtain ⟨bs, r2⟩ := Dp.reads I (.tuple ps) y u (hK ▸ rb.dp (by simp only [toP]; rw [eb]; rfl)) ry
      refine SeqAt.notIn_tuple_reads r2 r1 cb ca (by omega) ⟨.bl _, H, I, rfl, ?_⟩
      rw [any_toPL ea eb]
      exact k _ H (.refl H) .b
    · cases e
  · rename_i ds
    split at e
    · rename_i hc
      rw [Bool.and_eq_true] at hc
      cases e
      obtain ⟨pa, ea, ca, da⟩ := ok_toP hc.1
      obtain ⟨ps, eb, cb, db⟩ := okL_toPL hc.2
      obtain ⟨as, r1⟩ := Dp.reads I pa x v (hK ▸ ra.dp ea) rx
      obtain ⟨bs, r2⟩ := Dp.reads I (.list ps) y u (hK ▸ rb.dp (by simp only [toP]; rw [eb]; rfl)) ry
      refine SeqAt.notIn_list_reads r2 r1 cb ca (by omega) ⟨.bl _, H, I, rfl, ?_⟩
      rw [any_toPL ea eb]
      exact k _ H (.refl H) .b
    · cases e
  · cases e
end

/-! ### truth -/
def tru : D → Option Bool
  | .non => some false
  | .bl b => some b
  | .int i => some (i != 0)
  | .str x => if x.length ≤ LIM then some ((x.length : Int) != 0) else none
  | .tup ds => some (!ds.isEmpty)
  | .lst ds => some (!ds.isEmpty)
  | _ => none
theorem empL {C : Cn} {H : Hp} {ds : List D} {vs : List V} (h : RpL C H ds vs) : (!vs.isEmpty) = !ds.isEmpty := by
  have := h.length
  cases ds <;> cases vs <;> simp_all
theorem Rb.tru {C : Cn} {H : Hp} {d : D} {v : V} {k : Bool} (h : Rb C H d v) (e : tru d = some k) : TruV C.K v H k := by
  unfold TL.tru at e
  split at e
  · cases e; have := h.non; subst this; rfl
  · cases e; have := h.bl; subst this; rfl
  · cases e; have := h.int; subst this; rfl
  · split at e
    · rename_i hl; cases e; have := h.str; subst this; exact ⟨by rw [LIM_eq]; exact hl, rfl⟩
    · cases e
  · cases e; obtain ⟨a, vs, rfl, s, r⟩ := h.tup; exact .inr (.inl ⟨vs, s, (empL r).symm⟩)
  · cases e; obtain ⟨a, vs, rfl, s, r⟩ := h.lst; exact .inl ⟨vs, s, (empL r).symm⟩
  · cases e
section
variable {X : Cx} {C : Cn} {a b c : Expr} {rest : List Expr} {pos : Pos}
def sTru (m : SS → O Hd) : SS → O Bool := fun σ => (m σ).bind fun h σ1 => match res σ1 h with
  | some d => ofOpt (tru d) σ1
  | none => .bad
theorem tru_core {m : SS → O Hd} {W : WX} {τ : L2.St} {H : Hp} {Q : Bool → Hp → Prop} (h : tT C W (sTru m) τ H Q) : tHd C W m τ H fun x H1 => ∃ k, TruV C.K x H1 k ∧ Q k H1 := by
  refine (tG_bind (R := RH C) h).mono fun x H1 ⟨h1, r1, f1, G, σ, sr, p⟩ => ?_
  dsimp only at p
  split at p
  · rename_i d e
    cases q : tru d with
    | none => rw [q] at p; exact p.elim
    | some k => rw [q] at p; exact ⟨k, (sr.res r1 e).tru q, p k H1 rfl sr (.refl _)⟩
  · exact p.elim
theorem mt_tru {m : SS → O Hd} (hK : X.K = C.K) (h : MH X C a m) (he : ∀ whole, isTrue a X.env whole = (do let v ← whole; standAt a.pos; holding [v] (truthy v)) := by intro _; rfl) : MT X C a (sTru m) :=
  ⟨fun E W tk => (pt_truth (h.pe E W tk) he).imp fun τ H Q q => by rw [show (X.wish E).K = C.K from hK]; exact tru_core q⟩
def sB (m : SS → O D) : SS → O Bool := fun σ => (m σ).bind fun d σ1 => match d with
  | .bl k => .ok k σ1
  | _ => .bad
theorem mt_cmp {op : CmpOp} {f : D → D → Option D} {ma mb : SS → O Hd} (ho : ∀ E, OpR (X.wish E) (compareOp op) (rD C f)) (ha : MH X C a ma) (hb : MH X C b mb) (hm : behindInMarks op b = false) : MT X C (.Compare a [op] [b] pos) (sB (sOp f ma mb)) := by
  refine ⟨fun E W tk => (pt_cmpR (ho E) (ha.pe E W tk) (hb.pe E W tk) hm).imp fun τ H Q h => ?_⟩
  refine op_core ((tG_bind (R := fun _ => Rp C) h).mono fun x H1 ⟨d, r1, f1, G, σ, sr, p⟩ => ?_)
  dsimp only at p
  split at p
  · exact ⟨_, r1.rb.bl, p _ H1 rfl sr (.refl _)⟩
  · exact p.elim
/-- and, or, not -/
def sAndT (m n : SS → O Bool) : SS → O Bool := fun σ => (m σ).bind fun k σ1 => if k = true then n σ1 else .ok false σ1
def sOrT (m n : SS → O Bool) : SS → O Bool := fun σ => (m σ).bind fun k σ1 => if k = true then .ok true σ1 else n σ1
def sNotT (m : SS → O Bool) : SS → O Bool := fun σ => (m σ).bind fun k σ1 => .ok (!k) σ1
theorem MW.mt {e : Expr} {m : SS → O Bool} (h : MW X C e m) : MT X C e m := ⟨fun E W tk => (h.pw E W tk).pt⟩
theorem mw_and1 {m : SS → O Bool} (h : MT X C a m) : MW X C (.BoolOp .And [a] pos) m := ⟨fun E W tk => pw_and1 (h.pt E W tk)⟩
theorem mw_or1 {m : SS → O Bool} (h : MT X C a m) : MW X C (.BoolOp .Or [a] pos) m := ⟨fun E W tk => pw_or1 (h.pt E W tk)⟩
theorem mw_and {m n : SS → O Bool} (h : MT X C a m) (g : MW X C (.BoolOp .And (b :: rest) pos) n) : MW X C (.BoolOp .And (a :: b :: rest) pos) (sAndT m n) := by
  refine ⟨fun E W tk => (pw_and (h.pt E W tk) (g.pw E W tk)).imp fun τ H Q q => ?_⟩
  refine (tG_bind (R := fun _ _ b b' => b' = b) q).mono fun k H1 ⟨k', r, f1, h1⟩ => ?_
  subst r
  cases k with
  | true => exact iteT h1
  | false => exact iteF (tG_ret h1 _ rfl)
theorem mw_or {m n : SS → O Bool} (h : MT X C a m) (g : MW X C (.BoolOp .Or (b :: rest) pos) n) : MW X C (.BoolOp .Or (a :: b :: rest) pos) (sOrT m n) := by
  refine ⟨fun E W tk => (pw_or (h.pt E W tk) (g.pw E W tk)).imp fun τ H Q q => ?_⟩
  refine (tG_bind (R := fun _ _ b b' => b' = b) q).mono fun k H1 ⟨k', r, f1, h1⟩ => ?_
  subst r
  cases k with
  | true => exact iteT (tG_ret h1 _ rfl)
  | false => exact iteF h1
theorem mt_not {m : SS → O Bool} (h : MT X C a m) : MT X C (.UnaryOp .Not a pos) (sNotT m) := by
  refine ⟨fun E W tk => (pt_not (h.pt E W tk)).imp fun τ H Q q => ?_⟩
  refine (tG_bind (R := fun _ _ b b' => b' = b) q).mono fun k H1 ⟨k', r, f1, h1⟩ => ?_
  subst r
  exact tG_ret h1 _ rfl
/-- .. as values -/
def sAnd (m n : SS → O D) : SS → O D := fun σ => (m σ).bind fun d σ1 => match tru d with
  | some true => n σ1
  | some false => .ok d σ1
  | none => .bad
def sOr (m n : SS → O D) : SS → O D := fun σ => (m σ).bind fun d σ1 => match tru d with
  | some true => .ok d σ1
  | some false => n σ1
  | none => .bad
theorem me_one {op} {m : SS → O D} (h : ME X C a m) : ME X C (.BoolOp op [a] pos) m := ⟨fun E W tk => pe_one (h.pe E W tk)⟩
theorem me_and {m n : SS → O D} (hK : X.K = C.K) (h : ME X C a m) (g : ME X C (.BoolOp .And (b :: rest) pos) n) : ME X C (.BoolOp .And (a :: b :: rest) pos) (sAnd m n) := by
  refine ⟨fun E W tk => (pe_andT (h.pe E W tk) (g.pe E W tk)).imp fun τ H Q q => ?_⟩
  refine (tG_bind (R := fun _ => Rp C) q).mono fun x H1 ⟨d, r, f1, G, σ, sr, p⟩ => ?_
  dsimp only at p
  split at p
  · rename_i e
    exact ⟨true, by rw [show (X.wish E).K = C.K from hK]; exact r.rb.tru e, iteT ⟨G, σ, sr, p⟩⟩
  · rename_i e
    exact ⟨false, by rw [show (X.wish E).K = C.K from hK]; exact r.rb.tru e, iteF (p x H1 r sr (.refl _))⟩
  · exact p.elim
theorem me_or {m n : SS → O D} (hK : X.K = C.K) (h : ME X C a m) (g : ME X C (.BoolOp .Or (b :: rest) pos) n) : ME X C (.BoolOp .Or (a :: b :: rest) pos) (sOr m n) := by
  refine ⟨fun E W tk => (pe_orT (h.pe E W tk) (g.pe E W tk)).imp fun τ H Q q => ?_⟩
  refine (tG_bind (R := fun _ => Rp C) q).mono fun x H1 ⟨d, r, f1, G, σ, sr, p⟩ => ?_
  dsimp only at p
  split at p
  · rename_i e
    exact ⟨true, by rw [show (X.wish E).K = C.K from hK]; exact r.rb.tru e, iteT (p x H1 r sr (.refl _))⟩
  · rename_i e
    exact ⟨false, by rw [show (X.wish E).K = C.K from hK]; exact r.rb.tru e, iteF ⟨G, σ, sr, p⟩⟩
  · exact p.elim
def sNot (m : SS → O Hd) : SS → O D := fun σ => (sTru m σ).bind fun k σ1 => .ok (.bl (!k)) σ1
theorem me_not {m : SS → O Hd} (hK : X.K = C.K) (h : MH X C a m) : ME X C (.UnaryOp .Not a pos) (sNot m) := by
  refine ⟨fun E W tk => (pe_notT (h.pe E W tk)).imp fun τ H Q q => ?_⟩
  rw [show (X.wish E).K = C.K from hK]
  refine tru_core (Q := fun k H1 => Q (.bl (!k)) H1) ((tG_bind (R := fun _ _ b b' => b' = b) q).mono fun k H1 ⟨k', r, f1, h1⟩ => ?_)
  subst r
  exact tG_ret h1 _ .b
def sIf {β : Type} (c : SS → O Bool) (m n : SS → O β) : SS → O β := fun σ => (c σ).bind fun k σ1 => if k = true then m σ1 else n σ1
theorem me_ifExp {mc : SS → O Bool} {m n : SS → O D} (hc : MT X C c mc) (ha : ME X C a m) (hb : ME X C b n) : ME X C (.IfExp c a b pos) (sIf mc m n) := by
  refine ⟨fun E W tk => (pe_ifExp (hc.pt E W tk) (ha.pe E W tk) (hb.pe E W tk)).imp fun τ H Q q => ?_⟩
  refine (tG_bind (R := fun _ _ b b' => b' = b) q).mono fun k H1 ⟨k', r, f1, h1⟩ => ?_
  subst r
  cases k with
  | true => exact iteT h1
  | false => exact iteF h1
/-- a op b op' c -/
def sChain (f g : D → D → Option D) (ma mb mc : SS → O Hd) : SS → O D := fun σ => (ma σ).bind fun h1 σ1 => (mb σ1).bind fun h2 σ2 => match res σ2 h1, res σ2 h2 with
  | some x, some y => match f x y with
    | some (.bl true) => (mc σ2).bind fun h3 σ3 => match res σ3 h2, res σ3 h3 with
      | some y', some z => ofOpt (g y' z) σ3
      | _, _ => .bad
    | some (.bl false) => .ok (.bl false) σ2
    | _ => .bad
  | _, _ => .bad
end

/-! ### subscripts -/
def opIx : D → D → Option D
  | .tup ds, .int i => atI ds i
  | .lst ds, .int i => atI ds i
  | .str z, .int i => if z.length ≤ LIM then (atI z.cps.toList i).map fun c => .str ⟨#[c]⟩ else none
  | _, _ => none
theorem atI_rp {C : Cn} {H : Hp} {ds : List D} {vs : List V} {i : Int} {d : D} (r : RpL C H ds vs) (e : atI ds i = some d) : ∃ v, atI vs i = some v ∧ Rp C H d v := by
  unfold atI at e ⊢
  rw [r.length]
  cases q : ixN ds.length i with
  | none => rw [q] at e; cases e
  | some j =>
    rw [q] at e
    obtain ⟨v, e1, r1⟩ := r.get (i := j) e
    exact ⟨v, e1, r1⟩
section
variable {X : Cx} {C : Cn} {a b : Expr} {ma mb : SS → O Hd} {pos : Pos}
theorem ix_D (hK : X.K = C.K) : IxR X (rD C opIx) := by
  intro value slice p s τ H x y v u Q I rx ry ⟨a, b, d, ra, rb, e, k⟩ hs
  unfold opIx at e
  split at e
  · obtain ⟨p1, vs, rfl, s1, r1⟩ := ra.tup
    have := rb.int; subst this
    obtain ⟨w, e1, rw1⟩ := atI_rp r1 e
    exact ix_tup value slice p s τ H _ _ v u Q I rx ry ⟨p1, vs, _, w, rfl, rfl, hK ▸ s1, e1, k _ H (.refl H) rw1⟩ hs
  · obtain ⟨p1, vs, rfl, s1, r1⟩ := ra.lst
    have := rb.int; subst this
    obtain ⟨w, e1, rw1⟩ := atI_rp r1 e
    exact ix_list value slice p s τ H _ _ v u Q I rx ry ⟨p1, vs, _, w, rfl, rfl, hK ▸ s1, e1, k _ H (.refl H) rw1⟩ hs
  · rename_i z i
    split at e
    · rename_i hl
      have := ra.str; subst this
      have := rb.int; subst this
      cases q : atI z.cps.toList i with
      | none => rw [q] at e; cases e
      | some c =>
        rw [q] at e; cases e
        exact ix_str value slice p s τ H _ _ v u Q I rx ry ⟨z, i, c, rfl, rfl, by rw [LIM_eq]; exact hl, q, k _ H (.refl H) .s⟩ hs
    · cases e
  · cases e
theorem me_ix (hK : X.K = C.K) (ha : MH X C a ma) (hb : MH X C b mb) (hs : PlainIx b) : ME X C (.Subscript a b pos) (sOp opIx ma mb) :=
  ⟨fun E W tk => (pe_ix (ix_D (X := X.wish E) hK) (ha.pe E W tk) (hb.pe E W tk) hs).imp fun _ _ _ h => op_core h⟩
/-- -a -/
def sNeg (m : SS → O Hd) : SS → O D := fun σ => (m σ).bind fun h σ1 => match res σ1 h with
  | some (.int i) => .ok (.int (-i)) σ1
  | _ => .bad
theorem me_neg (ha : MH X C a ma) : ME X C (.UnaryOp .USub a pos) (sNeg ma) := by
  refine ⟨fun E W tk => (pe_un (un_neg (X := X.wish E)) (ha.pe E W tk)).imp fun τ H Q h => ?_⟩
  refine (tG_bind (R := RH C) h).mono fun x H1 ⟨h1, r1, f1, G, σ, sr, p⟩ => ?_
  dsimp only at p
  split at p
  · rename_i i e
    exact ⟨i, (sr.res r1 e).int, p _ H1 .i sr (.refl _)⟩
  · exact p.elim
end

/-! ### slices -/
def cut {α : Type} (xs : List α) (lo hi : Option Int) : List α := (xs.drop (HT.sIx xs.length 0 lo)).take (HT.sIx xs.length xs.length hi - HT.sIx xs.length 0 lo)
def part : Option Hd → SS → Option (Option Int)
  | none, _ => some none
  | some h, σ => match res σ h with
    | some (.int i) => some (some i)
    | _ => none
def opSl (d : D) (lo hi : Option Int) : Option D := match d with
  | .tup ds => some (.tup (cut ds lo hi))
  | .str z => if z.length ≤ LIM then some (.str (cutS z lo hi)) else none
  | .lst ds => some (.lst (cut ds lo hi))
  | _ => none
theorem cut_rp {C : Cn} {H : Hp} {ds : List D} {vs : List V} {lo hi : Option Int} (r : RpL C H ds vs) : RpL C H (cut ds lo hi) (cutV vs lo hi) := by
  unfold cut cutV
  rw [r.length]
  exact (r.drop _).take _
theorem cut_whole {α : Type} {xs : List α} {lo hi : Option Int} (h1 : HT.sIx xs.length 0 lo = 0) (h2 : HT.sIx xs.length xs.length hi = xs.length) : cut xs lo hi = xs := by
  unfold cut
  rw [h1, h2]
  simp
section
variable {X : Cx} {C : Cn}
theorem sl_D (hK : X.K = C.K) : SlR X (fun x lo hi H Q => ∃ a d, Rb C H a x ∧ opSl a lo hi = some d ∧ ∀ r H', Same H H' → Rp C H' d r → Q r H') := by
  intro p s τ H x v vl vu lo hi sl Q I rx hs pl pu ⟨a, d, ra, e, k⟩
  unfold opSl at e
  split at e
  · rename_i ds
    cases e
    obtain ⟨p1, vs, rfl, s1, r1⟩ := ra.tup
    refine sl_tupA p s τ H _ v vl vu lo hi sl Q I rx hs pl pu ⟨p1, vs, rfl, hK ▸ s1, fun hw => ?_, fun hw q hq => ?_⟩
    · rw [r1.length] at hw
      rw [cut_whole hw.1 hw.2] at k
      exact k _ H (.refl H) (rp_tup s1 r1)
    · have sm : Same H (upd H q (.tup (cutV vs lo hi))) := same_new hq
      exact k _ _ sm (rp_tup (SqT.of upd_same) ((cut_rp r1).fx (.of_same sm)))
  · split at e
    · rename_i hl
      cases e
      have := ra.str; subst this
      exact sl_str p s τ H _ v vl vu lo hi sl Q I rx hs pl pu ⟨_, rfl, by rw [LIM_eq]; exact hl, k _ H (.refl H) .s⟩
    · cases e
  · rename_i ds
    cases e
    obtain ⟨p1, vs, rfl, s1, r1⟩ := ra.lst
    obtain ⟨T, id, h1, h2, h3⟩ := sl_list p s τ H _ v vl vu lo hi sl (FzQ Q) I rx hs pl pu ⟨p1, vs, rfl, hK ▸ s1, fun q hq => by
      have sm : Same H (upd H q (.lst (cutV vs lo hi))) := same_new hq
      refine .inr ⟨q, _, rfl, upd_same, fun o => ?_⟩
      have sm2 : Same H (upd (upd H q (.lst (cutV vs lo hi))) q (.frz o (.lst (cutV vs lo hi)))) := by rw [upd_upd]; exact same_new hq
      exact k _ _ sm2 (rp_frz upd_same ((cut_rp r1).fx (.of_same sm)))⟩
    exact ⟨T, id, h1, h2, thn h3 fun _ _ z => EP.fz z⟩
  · cases e
variable {e : Expr} {lo hi : Option Expr} {pos p2 : Pos} {m : SS → O Hd}
/-- a slice's part -/
structure MP (X : Cx) (C : Cn) (e : Option Expr) (m : SS → O (Option Int)) : Prop where
  po : ∀ E W, Takes (X.wish E) W → PO (X.wish E) e (tG (fun _ _ o v => v = o) C W m)
theorem mp_none : MP X C none (fun σ => .ok none σ) := by
  refine ⟨fun E W tk => ⟨fun pins s σ H Q I h => ?_⟩⟩
  refine po_none.run pins s σ H Q I ?_
  exact tG_ret h none rfl
def sPart (m : SS → O D) : SS → O (Option Int) := fun σ => (m σ).bind fun d σ1 => match d with
  | .int i => .ok (some i) σ1
  | _ => .bad
theorem mp_some {m : SS → O D} (h : ME X C e m) : MP X C (some e) (sPart m) := by
  refine ⟨fun E W tk => ⟨fun pins s τ H Q I q => ?_⟩⟩
  refine (po_some (h.pe E W tk)).run pins s τ H Q I ?_
  refine (tG_bind (R := fun _ => Rp C) q).mono fun x H1 ⟨d, r1, f1, G, σ, sr, p⟩ => ?_
  dsimp only at p
  split at p
  · rename_i i
    exact ⟨i, r1.rb.int, p (some i) H1 rfl sr (.refl _)⟩
  · exact p.elim
def sSl (m : SS → O Hd) (l u : SS → O (Option Int)) : SS → O D := fun σ => (m σ).bind fun h σ1 => (l σ1).bind fun lo σ2 => (u σ2).bind fun hi σ3 => match res σ3 h with
  | some d => ofOpt (opSl d lo hi) σ3
  | none => .bad
theorem me_slice {l u : SS → O (Option Int)} (hK : X.K = C.K) (h : MH X C e m) (hl : MP X C lo l) (hu : MP X C hi u) : ME X C (.Subscript e (.Slice lo hi none p2) pos) (sSl m l u) := by
  refine ⟨fun E W tk => (pe_slice (sl_D (X := X.wish E) (C := C) hK) (h.pe E W tk) (hl.po E W tk) (hu.po E W tk)).imp fun τ H Q q => ?_⟩
  refine (tG_bind (R := RH C) q).mono fun x H1 ⟨h1, r1, f1, q1⟩ => ?_
  refine (tG_bind (R := fun _ _ o v => v = o) q1).mono fun lo' H2 ⟨lo2, e2, f2, q2⟩ => ?_
  refine (tG_bind (R := fun _ _ o v => v = o) q2).mono fun hi' H3 ⟨hi2, e3, f3, G, σ, sr, p⟩ => ?_
  subst e2 e3
  dsimp only at p
  split at p
  · rename_i d e
    cases q : opSl d lo' hi' with
    | none => rw [q] at p; exact p.elim
    | some d2 =>
      rw [q] at p
      exact ⟨d, d2, sr.res ((r1.fx f2).fx f3) e, q, fun r H' s z => p r H' z (sr.same s) (.of_same s)⟩
  · exact p.elim
end
end TL

set_option Elab.async false
set_option linter.all false
set_option maxRecDepth 100000
set_option maxHeartbeats 4000000
/-! TL6: defs: what they promise, how they are called. -/
namespace TL
open PySem PySem.Spec PyProof.Rows L2

/-- a def's end: what it hands back, and its arguments behind it -/
inductive FO where
  | ok (d : D) (outs : List SD) | okm (m : MO) (outs : List SD) | ex (x : Ex) (outs : List SD) | bad
abbrev FT := List SD → FO
def isOwn (as : List SD) (k : Nat) : Prop := ∃ m, as[k]? = some (.own m)
structure RArgs (C : Cn) (H : Hp) (as : List SD) (vs : List V) (A : Nat → Addr) : Prop where
  tabs : LamX.Tabs C.T H
  len : as.length = vs.length
  val : ∀ (k : Nat) (d : D), as[k]? = some (SD.val d) → ∃ v, vs[k]? = some v ∧ Rp C H d v
  own : ∀ (k : Nat) (m : MO), as[k]? = some (SD.own m) → vs[k]? = some (.ref (A k)) ∧ RM C H m (A k)
  noio : ∀ (k j : Nat) (m : MO), as[k]? ≠ some (SD.io j m)
  inj : ∀ j k, isOwn as j → isOwn as k → j ≠ k → A j ≠ A k
structure RKeep (C : Cn) (H H' : Hp) (as outs : List SD) (A : Nat → Addr) : Prop where
  fx : Fx H H'
  old : ∀ a o, H a = some o → notTbl o = true → (∀ k, isOwn as k → A k ≠ a) → H' a = some o
  out : ∀ k, isOwn as k → ∃ m', outs[k]? = some (.own m') ∧ RM C H' m' (A k)
def spT (C : Cn) (F : FT) : Sp := fun vs H Q E => ∃ (as : List SD) (A : Nat → Addr), RArgs C H as vs A ∧ match F as with
  | .bad => False
  | .ok d outs => ∀ v H', Rp C H' d v → RKeep C H H' as outs A → Q v H'
  | .okm m outs => ∀ a o H', H' a = some o → RM C H' m a → (∀ u, H a = some u → notTbl u = false) → RKeep C H H' as outs A → Q (.ref a) H'
  | .ex x outs => ∀ cls dd H', RX C H' x cls dd → RKeep C H H' as outs A → E cls dd H'
structure FnT (P : Program) (w : World) (K : PySem.W.Frag) (mg : Str → Option Value) (base : Heap) (C : Cn) (k : Nat) (f : Addr) (fd : FuncData) (ps : List Str) (F : FT) : Prop where
  len : ∀ as, F as ≠ .bad → as.length = ps.length
  run : ∀ (A : Around) (outer : List Env) (s : Shared) (H : Hp) (args : Args) (us : List Value) (vs : List V) (Q : VK) (E : XK), TRoom k A → Env0 P w K mg base A outer s H → BindsTo s fd args (ps.zip us) → Vals vs us → spT C F vs H Q E →
    codeAny (model P w) A (.call (.ref f) args) (CR (CX P w) outer P w H s Q E) s
theorem spT_len {P : Program} {w : World} {K : PySem.W.Frag} {mg : Str → Option Value} {base : Heap} {C : Cn} {k : Nat} {f : Addr} {fd : FuncData} {ps : List Str} {F : FT} (h : FnT P w K mg base C k f fd ps F) {vs : List V} {H : Hp} {Q : VK} {E : XK} (q : spT C F vs H Q E) : vs.length = ps.length := by
  obtain ⟨as, A, r, m⟩ := q
  rw [← r.len]
  refine h.len as fun e => ?_
  rw [e] at m
  exact m

/-! ### a def's body -/
def inSlot (k : Nat) : SD → Option SD
  | .own m => some (.io k m)
  | sd => some sd
def startS (n : Nat) (as : List SD) : SS := (as.mapIdx fun k sd => inSlot k sd) ++ List.replicate (n - as.length) none
/-- the arguments behind the body -/
def outOf (σ : SS) (k : Nat) : SD → Option SD
  | .own _ => match σ[k]? with
    | some (some (.io j m)) => if j = k then some (.own m) else none
    | _ => none
  | sd => some sd
def outsAt (σ : SS) : Nat → List SD → Option (List SD)
  | _, [] => some []
  | k, a :: as => match outOf σ k a, outsAt σ (k + 1) as with
    | some o, some os => some (o :: os)
    | _, _ => none
def runB (n np : Nat) (body : SS → OS) : FT := fun as => if as.length = np then match body (startS n as) with
  | .nx σ => match outsAt σ 0 as with
    | some os => .ok .non os
    | none => .bad
  | .rt d σ => match outsAt σ 0 as with
    | some os => .ok d os
    | none => .bad
  | .rtm m σ => match outsAt σ 0 as with
    | some os => .okm m os
    | none => .bad
  | .ex x σ => match outsAt σ 0 as with
    | some os => .ex x os
    | none => .bad
  | _ => .bad else .bad
theorem outsAt_get {σ : SS} : ∀ {as : List SD} {k : Nat} {os : List SD} {i : Nat} {m : MO}, outsAt σ k as = some os → as[i]? = some (.own m) → ∃ m', os[i]? = some (.own m') ∧ σ[k + i]? = some (some (.io (k + i) m'))
  | [], _, _, _, _, _, e => by simp at e
  | a :: as, k, os, 0, m, h, e => by
    simp at e
    subst e
    unfold outsAt at h
    split at h
    · rename_i o os' h1 h2
      cases h
      unfold outOf at h1
      dsimp only at h1
      split at h1
      · rename_i j m' q
        split at h1
        · rename_i hj
          subst hj
          cases h1
          exact ⟨m', rfl, q⟩
        · cases h1
      · cases h1
    · cases h
  | a :: as, k, os, i + 1, m, h, e => by
    unfold outsAt at h
    split at h
    · rename_i o os' h1 h2
      cases h
      obtain ⟨m', e1, e2⟩ := outsAt_get (i := i) h2 (by simpa using e)
      exact ⟨m', by simpa using e1, by rw [show k + (i + 1) = k + 1 + i by omega]; exact e2⟩
    · cases h

section
variable {C : Cn} {H : Hp} {as : List SD} {vs : List V} {A : Nat → Addr} {n : Nat} {N : List Str}
open Classical in
/-- the ghost of a body: all stands but what came to be changed -/
noncomputable def g0 (H : Hp) (as : List SD) (A : Nat → Addr) : Gh := ⟨fun a => if ∃ k, isOwn as k ∧ A k = a then none else (H a).filter notTbl, A⟩
theorem startS_get {i : Nat} {sd : SD} (e : (startS n as)[i]? = some (some sd)) : ∃ a, as[i]? = some a ∧ inSlot i a = some sd := by
  unfold startS at e
  by_cases hi : i < as.length
  · rw [List.getElem?_append_left (by simpa using hi), List.getElem?_mapIdx] at e
    cases q : as[i]? with
    | none => rw [q] at e; cases e
    | some a => rw [q] at e; exact ⟨a, rfl, by simpa using e⟩
  · rw [List.getElem?_append_right (by simpa using hi), List.getElem?_replicate] at e
    split at e <;> cases e
open Classical in
theorem sr_start (r : RArgs C H as vs A) (hN : n = N.length) (hl : as.length ≤ n) : SR C (g0 H as A) H (startS n as) (L2.start N vs) := by
  refine ⟨?_, fun a o e => ?_, fun a o e => ?_, r.tabs, fun i => if isOwn as i then [A i] else [], fun i sd e => ?_, fun i j a hn h1 h2 => ?_, fun i a h => ?_, fun i h => ?_⟩
  · unfold startS L2.start
    simp only [List.length_append, List.length_mapIdx, List.length_replicate, List.length_map]
    rw [← hN, ← r.len]
  · unfold g0 at e
    dsimp only at e
    split at e
    · cases e
    · exact (Option.filter_eq_some_iff.mp e).1
  · unfold g0 at e
    dsimp only at e
    split at e
    · cases e
    · exact (Option.filter_eq_some_iff.mp e).2
  · obtain ⟨a, e1, e2⟩ := startS_get e
    have hi : i < vs.length := by
      rw [← r.len]
      exact (List.getElem?_eq_some_iff.mp e1).1
    have st : ∀ v, vs[i]? = some v → (L2.start N vs)[i]? = some (some v) := fun v q => by
      unfold L2.start
      rw [List.getElem?_append_left (by simpa using hi), List.getElem?_map, q]; rfl
    cases a with
    | val d =>
      obtain ⟨v, q1, q2⟩ := r.val i d e1
      cases e2
      have : ¬ isOwn as i := fun ⟨m, z⟩ => by rw [e1] at z; cases z
      exact ⟨v, st v q1, q2, if_neg this⟩
    | own m =>
      obtain ⟨q1, q2⟩ := r.own i m e1
      cases e2
      exact ⟨_, st _ q1, rfl, if_pos ⟨m, e1⟩, q2⟩
    | io j m => exact absurd e1 (r.noio i j m)
  · dsimp only at h1 h2
    split at h1
    · split at h2
      · rename_i o1 o2
        exact r.inj i j o1 o2 hn ((List.mem_singleton.mp h1).symm.trans (List.mem_singleton.mp h2))
      · cases h2
    · cases h1
  · dsimp only at h
    split at h
    · rename_i o
      unfold g0
      dsimp only
      rw [if_pos ⟨i, o, (List.mem_singleton.mp h).symm⟩]
    · cases h
  · dsimp only
    split
    · rename_i o
      obtain ⟨m, e⟩ := o
      refine absurd ?_ (h (.io i m))
      have hi : i < as.length := (List.getElem?_eq_some_iff.mp e).1
      unfold startS
      rw [List.getElem?_append_left (by simpa using hi), List.getElem?_mapIdx, e]
      rfl
    · rfl
open Classical in
theorem sr_end {H' : Hp} {σ : SS} {τ : L2.St} {os : List SD} (sr : SR C (g0 H as A) H' σ τ) (fx : Fx H H') (e : outsAt σ 0 as = some os) : RKeep C H H' as os A := by
  refine ⟨fx, fun a o q nt hn => sr.gr a o ?_, fun k ⟨m, q⟩ => ?_⟩
  · unfold g0
    dsimp only
    rw [if_neg fun ⟨k, o1, o2⟩ => hn k o1 o2, q]
    exact Option.filter_eq_some_iff.mpr ⟨rfl, nt⟩
  · obtain ⟨m', e1, e2⟩ := outsAt_get e q
    rw [Nat.zero_add] at e2
    obtain ⟨v, F, _, r1⟩ := sr.at e2
    exact ⟨m', e1, r1.2.2⟩
end

theorem sr_new {C : Cn} {H : Hp} {as : List SD} {A : Nat → Addr} {H' : Hp} {σ : SS} {τ : L2.St} {os : List SD} {p : Addr} {o : HO} (sr : SR C ⟨upd (g0 H as A).hp p o, A⟩ H' σ τ) (n : (g0 H as A).hp p = none) (e : outsAt σ 0 as = some os) : ∀ u, H p = some u → notTbl u = false := by
  unfold g0 at n
  dsimp only at n
  split at n
  · rename_i hk
    obtain ⟨k, ⟨m, q⟩, hp⟩ := hk
    obtain ⟨m', e1, e2⟩ := outsAt_get e q
    rw [Nat.zero_add] at e2
    obtain ⟨_, _, _, _, F, h1, _, h3, _⟩ := sr
    obtain ⟨v, _, r1⟩ := h1 k _ e2
    have : upd (g0 H as A).hp p o (A k) = none := h3 k (A k) (by rw [r1.2.1]; exact List.mem_singleton.mpr rfl)
    rw [hp, upd_same] at this
    cases this
  · intro u q
    rw [q] at n
    cases z : notTbl u with
    | false => rfl
    | true => simp [Option.filter, z] at n
theorem TRoom.deeper {k : Nat} {A : Around} (r : TRoom (k + 1) A) (env : Env) : TRoom k (A.deeper env) :=
  ⟨r.hd, r.gd, by have := r.dp; show A.depth + 1 + k + 20 < _; omega, by have := r.un; show A.units + 3 + 16 * k + 400 < _; omega⟩
/-- THE RULE: a def of the text -/
theorem fnT_of {P : Program} {w : World} {K : PySem.W.Frag} {mg : Str → Option Value} {base : Heap} {C : Cn} {k : Nat} {f : Addr} {name qual : Str} {params : Arguments} {body : List Stmt} {scope : Scope} {dV kV doc pm cdv ct oc : Value} {an od : Option Addr}
    {osl : Array (Option Value)} {N ps : List Str} {m : SS → OS} (lk : K.lookup f = some ⟨oc, od, .func (PySem.W.fnOf name qual params body scope dV kV doc pm an cdv ct), osl⟩) (hcd : PySem.W.codeIn K cdv qual = true) (S : FnScope N ps scope)
    (hbody : ∀ (A : Around) (outer : List Env) (s : Shared) (H : Hp) (E : XK), TRoom k (A.deeper (envOfC qual scope s.heap.objs.size f cdv)) → MSs (cxOf (CX P w) P w K mg base N qual scope f cdv A outer s H E) C body m) :
    FnT P w K mg base C (k + 1) f (PySem.W.fnOf name qual params body scope dV kV doc pm an cdv ct) ps (runB N.length ps.length m) := by
  have hlen : ∀ as, runB N.length ps.length m as ≠ .bad → as.length = ps.length := fun as h => by
    unfold runB at h
    split at h
    · assumption
    · exact absurd rfl h
  refine ⟨hlen, fun A outer s H args us vs Q E hr e0 hb r hsp => ?_⟩
  have hpl : ps.length ≤ N.length := by have := congrArg List.length S.pre; rw [List.length_take] at this; omega
  obtain ⟨as, Ad, ra, hq⟩ := hsp
  have hla : as.length = ps.length := hlen as fun e => by rw [e] at hq; exact hq
  have hl : vs.length = ps.length := ra.len.symm.trans hla
  have KX : K.In s.heap := e0.mod.kin.keeps fun b o e => (e0.bs b o e).1
  have lim : s.heap.NoLimit := e0.mod.nolimit.keeps fun b o e => (e0.bs b o e).1
  have hkind : ∀ y ∈ ps.zip us, scope.names.lookup y.1 = some .local ∨ (scope.names.lookup y.1 = some .cell ∧ ((cellsFrom (s.heap.objs.size + 1) scope.names []).lookup y.1).isSome = true) := fun ⟨n, v⟩ hy => by
    rcases S.par n (List.of_mem_zip hy).1 with q | q
    · exact .inl q
    · exact .inr ⟨q, PySem.W.cellsFrom_some _ _ _ (.inl q)⟩
  have hdep : A.depth < recursionLimit := by have := hr.dp; omega
  refine codeAny_call_function hdep (KX _ _ lk) rfl S.co S.gen rfl (PySem.W.codeRec_of KX hcd) (hb _ _ _ _ ?_)
  refine wpAny_newFunctionEnv_cells S.kind hkind fun env he s1 x => ?_
  subst he
  refine ⟨lim.keeps x.toInCall.keep, codeAny_func ?_⟩
  have hm := hbody A outer s H E (hr.deeper _)
  have I : Inv (cxOf (CX P w) P w K mg base N qual scope f cdv A outer s H E) [] (L2.start N vs) H s1 := inv_start S hr.hd e0 hl r x
  have tk : Takes (cxOf (CX P w) P w K mg base N qual scope f cdv A outer s H E) (fun cls d _ H => E cls d H) := takes_of rfl rfl rfl rfl
  have pw : PassesOwn (model P w) (A.deeper (envOfC qual scope s.heap.objs.size f cdv)) (envOfC qual scope s.heap.objs.size f cdv) (cxOf (CX P w) P w K mg base N qual scope f cdv A outer s H E).xe := PassesOwn.leaving
  have sr := sr_start (N := N) ra rfl (by omega : as.length ≤ N.length)
  have go := (hm.ps _ _ tk pw).run [] s1 (L2.start N vs) H ⟨fun _ H' => Q .non H', Q, fun _ _ => False, fun _ _ => False⟩ I ⟨_, _, sr, by
    unfold runB at hq
    rw [if_pos hla] at hq
    cases e : m (startS N.length as) with
    | bad => rw [e] at hq; exact hq
    | bk σ => rw [e] at hq; exact hq.elim
    | ct σ => rw [e] at hq; exact hq.elim
    | nx σ =>
      rw [e] at hq
      dsimp only at hq
      intro τ' H' sr' fx
      cases e2 : outsAt σ 0 as with
      | none => rw [e2] at hq; exact hq.elim
      | some os => rw [e2] at hq; exact hq _ H' .n (sr_end sr' fx e2)
    | rt d σ =>
      rw [e] at hq
      dsimp only at hq
      intro v τ' H' rd sr' fx
      cases e2 : outsAt σ 0 as with
      | none => rw [e2] at hq; exact hq.elim
      | some os => rw [e2] at hq; exact hq v H' rd (sr_end sr' fx e2)
    | rtm m2 σ =>
      rw [e] at hq
      dsimp only at hq
      intro a o τ' H' ha rm n sr' fx
      cases e2 : outsAt σ 0 as with
      | none => rw [e2] at hq; exact hq.elim
      | some os => rw [e2] at hq; exact hq a o H' ha rm (sr_new sr' n e2) (sr_end (sr'.freeG n) fx e2)
    | ex x σ =>
      rw [e] at hq
      dsimp only at hq
      intro cls dd τ' H' rx sr' fx
      cases e2 : outsAt σ 0 as with
      | none => rw [e2] at hq; exact hq.elim
      | some os => rw [e2] at hq; exact hq cls dd H' rx (sr_end sr' fx e2)⟩
  refine wpAny_mono go (fun fl s' hs => ?_) fun e s' hs => hs
  have fin : ∀ {σ' : L2.St} {H' : Hp} {v : V} {u : Value}, Inv (cxOf (CX P w) P w K mg base N qual scope f cdv A outer s H E) [] σ' H' s' → RelV v u → Q v H' → CE outer P w H s Q u s' :=
    fun {σ' H' v u} J rv q => ⟨v, H', J.os, J.bare, J.base, J.hok, rv, q⟩
  cases fl with
  | ret u =>
    obtain ⟨v, σ', H', J, rv, q⟩ := hs
    exact fin J.unwish rv q
  | next =>
    obtain ⟨σ', H', J, q⟩ := hs
    exact fin (v := V.non) (u := Value.none) J.unwish rfl q
  | brk =>
    obtain ⟨_, _, _, q⟩ := hs
    exact False.elim q
  | cont =>
    obtain ⟨_, _, _, q⟩ := hs
    exact False.elim q

/-! ### a call's arguments -/
inductive AV where | v (d : D) | s (i : Nat)
def RAV (C : Cn) (τ : L2.St) (H : Hp) : AV → V → Prop
  | .v d, x => Rp C H d x
  | .s i, x => τ[i]? = some (some x)
theorem RAV.fx {C : Cn} {τ : L2.St} {H H' : Hp} {a : AV} {x : V} (r : RAV C τ H a x) (f : Fx H H') : RAV C τ H' a x := by
  cases a with
  | v d => exact Rp.fx f r
  | s i => exact r
abbrev RAVs (C : Cn) (τ : L2.St) (H : Hp) (as : List AV) (xs : List V) : Prop := Paired (RAV C τ H) as xs
structure MAV (X : Cx) (C : Cn) (es : List Expr) (m : SS → O (List AV)) : Prop where
  pa : ∀ E W, Takes (X.wish E) W → PA (X.wish E) es (tG (RAVs C) C W m)
structure MA1 (X : Cx) (C : Cn) (e : Expr) (m : SS → O AV) : Prop where
  pe : ∀ E W, Takes (X.wish E) W → PE (X.wish E) e (tG (RAV C) C W m)
def sAv (m : SS → O D) : SS → O AV := fun σ => (m σ).bind fun d σ1 => .ok (.v d) σ1
def sAs (i : Nat) : SS → O AV := fun σ => match σ[i]? with
  | some (some (.own _)) => .ok (.s i) σ
  | some (some (.io _ _)) => .ok (.s i) σ
  | _ => .bad
section
variable {X : Cx} {C : Cn} {pos : Pos} {e : Expr} {es : List Expr}
theorem m1_val {m : SS → O D} (h : ME X C e m) : MA1 X C e (sAv m) :=
  ⟨fun E W tk => (h.pe E W tk).imp fun τ H Q q => (tG_bind (R := fun _ => Rp C) q).mono fun x H1 ⟨d, r, f, h1⟩ => tG_ret h1 x r⟩
theorem m1_slot (i : Nat) {x : Str} (hN : X.N[i]? = some x := by rfl) (hv : Vis X.env.scope x := by first | exact Or.inl rfl | exact Or.inr (Or.inl rfl) | exact Or.inr (Or.inr rfl)) (hd : (x == ("__debug__" : Str)) = false := by decide)
    (hcd : (x == ("__classdict__" : Str)) = false := by decide) : MA1 X C (.Name x pos) (sAs i) := by
  refine ⟨fun E W tk => (pv (X := X.wish E) i hN hv hd hcd).imp fun τ H Q h => ?_⟩
  obtain ⟨G, σ, r, p⟩ := h
  unfold sAs at p
  split at p
  · rename_i m e
    obtain ⟨v, F, e1, r1⟩ := r.at e
    exact ⟨v, e1, p v H e1 r (.refl H)⟩
  · rename_i k m e
    obtain ⟨v, F, e1, r1⟩ := r.at e
    exact ⟨v, e1, p v H e1 r (.refl H)⟩
  · exact p.elim
def sANil : SS → O (List AV) := fun σ => .ok [] σ
def sACons (a : SS → O AV) (m : SS → O (List AV)) : SS → O (List AV) := fun σ => (a σ).bind fun d σ1 => (m σ1).bind fun ds σ2 => .ok (d :: ds) σ2
theorem mv_nil : MAV X C [] sANil := ⟨fun E W tk => pa_nil.imp fun τ H Q h => tG_ret h _ .nil⟩
theorem mv_cons {a : SS → O AV} {m : SS → O (List AV)} (ha : MA1 X C e a) (hm : MAV X C es m) (hs : starEach (e :: es) X.env = (false, eval e X.env) :: starEach es X.env := by rfl) : MAV X C (e :: es) (sACons a m) := by
  refine ⟨fun E W tk => (pa_cons (ha.pe E W tk) (hm.pa E W tk) hs).imp fun τ H Q h => ?_⟩
  refine (tG_bind (R := RAV C) h).mono fun x H1 ⟨d, r1, f1, h1⟩ => ?_
  refine (tG_bind (R := RAVs C) h1).mono fun xs H2 ⟨ds, r2, f2, h2⟩ => ?_
  exact tG_ret h2 _ (.cons (r1.fx f2) r2)
end

/-! ### a call -/
def argOf (σ : SS) : AV → Option SD
  | .v d => some (.val d)
  | .s i => match σ[i]? with
    | some (some (.own m)) => some (.own m)
    | some (some (.io _ m)) => some (.own m)
    | _ => none
def argsOf (σ : SS) : List AV → Option (List SD)
  | [] => some []
  | a :: as => match argOf σ a, argsOf σ as with
    | some o, some os => some (o :: os)
    | _, _ => none
def slots : List AV → List Nat
  | [] => []
  | .v _ :: r => slots r
  | .s i :: r => i :: slots r
def put1 (σ : SS) (i : Nat) (m : MO) : SS := match σ[i]? with
  | some (some (.own _)) => σ.set i (some (.own m))
  | some (some (.io k _)) => σ.set i (some (.io k m))
  | _ => σ
def putBack (σ : SS) : List AV → List SD → SS
  | .s i :: r, .own m :: os => putBack (put1 σ i m) r os
  | _ :: r, _ :: os => putBack σ r os
  | _, _ => σ
def sCall (F : FT) (ds : List D) (m : SS → O (List AV)) : SS → O D := fun σ => (m σ).bind fun as σ1 => if (slots as).Nodup then match argsOf σ1 as with
  | some args => match F (args ++ ds.map SD.val) with
    | .ok d outs => .ok d (putBack σ1 as outs)
    | .ex x outs => .ex x (putBack σ1 as outs)
    | _ => .bad
  | none => .bad else .bad

def found (i : Nat) : List AV → List SD → Option MO
  | .s j :: r, .own m :: os => (found i r os).or (if j = i then some m else none)
  | _ :: r, _ :: os => found i r os
  | _, _ => none
def repl (o : Option MO) (s : Option SD) : Option SD := match o, s with
  | some m, some (.own _) => some (.own m)
  | some m, some (.io k _) => some (.io k m)
  | _, s => s
theorem repl_repl (o : Option MO) (m : MO) (s : Option SD) : repl o (repl (some m) s) = repl (o.or (some m)) s := by
  cases o with
  | none =>
    cases s with
    | none => rfl
    | some s => cases s <;> rfl
  | some n =>
    cases s with
    | none => rfl
    | some s => cases s <;> rfl
theorem repl_none (s : Option SD) : repl none s = s := by
  cases s with
  | none => rfl
  | some s => cases s <;> rfl
theorem put1_len {σ : SS} {j : Nat} {m : MO} : (put1 σ j m).length = σ.length := by
  unfold put1
  split <;> simp
theorem put1_get {σ : SS} {i j : Nat} {m : MO} : (put1 σ j m)[i]? = (σ[i]?).map (repl (if j = i then some m else none)) := by
  unfold put1
  by_cases hj : j = i
  · subst hj
    rw [if_pos rfl]
    split
    · rename_i m0 e
      have hl := (List.getElem?_eq_some_iff.mp e).1
      rw [List.getElem?_set, if_pos rfl, if_pos hl, e]; rfl
    · rename_i k m0 e
      have hl := (List.getElem?_eq_some_iff.mp e).1
      rw [List.getElem?_set, if_pos rfl, if_pos hl, e]; rfl
    · rename_i h1 h2
      cases e : σ[j]? with
      | none => rfl
      | some s =>
        cases s with
        | none => rfl
        | some sd =>
          cases sd with
          | val d => rfl
          | own m0 => exact absurd e (h1 m0)
          | io k m0 => exact absurd e (h2 k m0)
  · rw [if_neg hj]
    have : (σ[i]?).map (repl none) = σ[i]? := by cases σ[i]? with
      | none => rfl
      | some s => exact congrArg some (repl_none s)
    rw [this]
    split
    · rw [List.getElem?_set_ne hj]
    · rw [List.getElem?_set_ne hj]
    · rfl
theorem putBack_get {i : Nat} : ∀ {as : List AV} {os : List SD} {σ : SS}, (putBack σ as os)[i]? = (σ[i]?).map (repl (found i as os))
  | [], _, σ => by
    show σ[i]? = _
    cases σ[i]? with
    | none => rfl
    | some s => exact (congrArg some (repl_none s)).symm
  | _ :: _, [], σ => by
    have : ∀ a (r : List AV), putBack σ (a :: r) [] = σ := fun a r => by cases a <;> rfl
    rw [this]
    have : ∀ a (r : List AV), found i (a :: r) [] = none := fun a r => by cases a <;> rfl
    rw [this]
    cases σ[i]? with
    | none => rfl
    | some s => exact (congrArg some (repl_none s)).symm
  | .v d :: r, o :: os, σ => by
    show (putBack σ r os)[i]? = (σ[i]?).map (repl (found i r os))
    exact putBack_get
  | .s j :: r, .val d :: os, σ => by
    show (putBack σ r os)[i]? = (σ[i]?).map (repl (found i r os))
    exact putBack_get
  | .s j :: r, .io k m :: os, σ => by
    show (putBack σ r os)[i]? = (σ[i]?).map (repl (found i r os))
    exact putBack_get
  | .s j :: r, .own m :: os, σ => by
    show (putBack (put1 σ j m) r os)[i]? = (σ[i]?).map (repl ((found i r os).or (if j = i then some m else none)))
    rw [putBack_get, put1_get]
    cases σ[i]? with
    | none => rfl
    | some s =>
      show some (repl _ (repl _ s)) = some _
      by_cases hj : j = i
      · rw [if_pos hj, repl_repl]
      · rw [if_neg hj, repl_none]
        congr 2
        cases found i r os <;> rfl
theorem putBack_len : ∀ {as : List AV} {os : List SD} {σ : SS}, (putBack σ as os).length = σ.length
  | [], _, σ => rfl
  | a :: r, [], σ => by cases a <;> rfl
  | .v d :: r, o :: os, σ => putBack_len (as := r) (os := os)
  | .s j :: r, .val d :: os, σ => putBack_len (as := r) (os := os)
  | .s j :: r, .io k m :: os, σ => putBack_len (as := r) (os := os)
  | .s j :: r, .own m :: os, σ => (putBack_len (as := r) (os := os)).trans put1_len
theorem found_some {i : Nat} {m : MO} : ∀ {as : List AV} {os : List SD}, found i as os = some m → ∃ k : Nat, as[k]? = some (.s i) ∧ os[k]? = some (.own m)
  | [], _, h => by cases h
  | a :: r, [], h => by cases a <;> cases h
  | .v d :: r, o :: os, h => by
    obtain ⟨k, h1, h2⟩ := found_some (as := r) (os := os) h
    exact ⟨k + 1, by simpa using h1, by simpa using h2⟩
  | .s j :: r, .val d :: os, h => by
    obtain ⟨k, h1, h2⟩ := found_some (as := r) (os := os) h
    exact ⟨k + 1, by simpa using h1, by simpa using h2⟩
  | .s j :: r, .io _ _ :: os, h => by
    obtain ⟨k, h1, h2⟩ := found_some (as := r) (os := os) h
    exact ⟨k + 1, by simpa using h1, by simpa using h2⟩
  | .s j :: r, .own m' :: os, h => by
    have h : (found i r os).or (if j = i then some m' else none) = some m := h
    cases e : found i r os with
    | some m2 =>
      rw [e] at h; cases h
      obtain ⟨k, h1, h2⟩ := found_some (as := r) (os := os) e
      exact ⟨k + 1, by simpa using h1, by simpa using h2⟩
    | none =>
      rw [e] at h
      by_cases hj : j = i
      · rw [if_pos hj] at h
        cases h
        exact ⟨0, by rw [hj]; rfl, rfl⟩
      · rw [if_neg hj] at h; cases h
theorem found_none {i k : Nat} {m : MO} : ∀ {as : List AV} {os : List SD} {k : Nat}, found i as os = none → as[k]? = some (.s i) → os[k]? = some (.own m) → False
  | [], _, _, _, h, _ => by simp at h
  | a :: r, [], _, _, _, h => by simp at h
  | .v d :: r, o :: os, 0, _, h, _ => by simp at h
  | .v d :: r, o :: os, k + 1, h, h1, h2 => found_none (k := k) (as := r) (os := os) h (by simpa using h1) (by simpa using h2)
  | .s j :: r, .val d :: os, 0, _, _, h => by simp at h
  | .s j :: r, .val d :: os, k + 1, h, h1, h2 => found_none (k := k) (as := r) (os := os) h (by simpa using h1) (by simpa using h2)
  | .s j :: r, .io _ _ :: os, 0, _, _, h => by simp at h
  | .s j :: r, .io _ _ :: os, k + 1, h, h1, h2 => found_none (k := k) (as := r) (os := os) h (by simpa using h1) (by simpa using h2)
  | .s j :: r, .own m' :: os, 0, h, h1, _ => by
    have h : (found i r os).or (if j = i then some m' else none) = none := h
    have hj : j = i := by simpa using h1
    rw [if_pos hj] at h
    cases q : found i r os with
    | none => rw [q] at h; cases h
    | some m2 => rw [q] at h; cases h
  | .s j :: r, .own m' :: os, k + 1, h, h1, h2 => by
    have h : (found i r os).or (if j = i then some m' else none) = none := h
    cases q : found i r os with
    | none => exact found_none (k := k) (as := r) (os := os) q (by simpa using h1) (by simpa using h2)
    | some m2 => rw [q] at h; cases h
/-- the address of a slot's thing -/
def adr (τ : L2.St) (i : Nat) : Addr := match τ[i]? with
  | some (some (.ref a)) => a
  | _ => 0
def adrs (τ : L2.St) (as : List AV) (k : Nat) : Addr := match as[k]? with
  | some (.s i) => adr τ i
  | _ => 0
theorem argsOf_len {σ : SS} : ∀ {as : List AV} {args : List SD}, argsOf σ as = some args → args.length = as.length
  | [], args, h => by cases h; rfl
  | a :: as, args, h => by
    unfold argsOf at h
    split at h
    · rename_i o os h1 h2
      cases h
      simp [argsOf_len h2]
    · cases h
theorem argsOf_get {σ : SS} : ∀ {as : List AV} {args : List SD} {k : Nat} {sd : SD}, argsOf σ as = some args → args[k]? = some sd → ∃ a, as[k]? = some a ∧ argOf σ a = some sd
  | [], args, k, sd, h, e => by cases h; simp at e
  | a :: as, args, k, sd, h, e => by
    unfold argsOf at h
    split at h
    · rename_i o os h1 h2
      cases h
      cases k with
      | zero => simp at e; subst e; exact ⟨a, rfl, h1⟩
      | succ k =>
        obtain ⟨b, e1, e2⟩ := argsOf_get (k := k) h2 (by simpa using e)
        exact ⟨b, by simpa using e1, e2⟩
    · cases h
theorem slots_mem {i : Nat} : ∀ {as : List AV} {k : Nat}, as[k]? = some (.s i) → i ∈ slots as
  | [], _, h => by simp at h
  | .v _ :: r, 0, h => by simp at h
  | .v _ :: r, k + 1, h => slots_mem (as := r) (k := k) (by simpa using h)
  | .s j :: r, 0, h => by simp at h; subst h; exact List.mem_cons_self
  | .s j :: r, k + 1, h => List.mem_cons_of_mem _ (slots_mem (as := r) (k := k) (by simpa using h))
theorem slots_inj {i : Nat} : ∀ {as : List AV} {j k : Nat}, (slots as).Nodup → as[j]? = some (.s i) → as[k]? = some (.s i) → j = k
  | [], _, _, _, h, _ => by simp at h
  | .v _ :: r, 0, _, _, h, _ => by simp at h
  | .v _ :: r, _ + 1, 0, _, _, h => by simp at h
  | .v _ :: r, j + 1, k + 1, nd, h1, h2 => congrArg (· + 1) (slots_inj (as := r) (j := j) (k := k) nd (by simpa using h1) (by simpa using h2))
  | .s x :: r, 0, 0, _, _, _ => rfl
  | .s x :: r, 0, k + 1, nd, h1, h2 => by
    simp at h1; subst h1
    exact absurd (slots_mem (as := r) (k := k) (by simpa using h2)) (List.nodup_cons.mp nd).1
  | .s x :: r, j + 1, 0, nd, h1, h2 => by
    simp at h2; subst h2
    exact absurd (slots_mem (as := r) (k := j) (by simpa using h1)) (List.nodup_cons.mp nd).1
  | .s x :: r, j + 1, k + 1, nd, h1, h2 => congrArg (· + 1) (slots_inj (as := r) (j := j) (k := k) (List.nodup_cons.mp nd).2 (by simpa using h1) (by simpa using h2))
theorem paired_get {α β : Type} {R : α → β → Prop} : ∀ {xs : List α} {ys : List β} {i : Nat} {a : α}, Paired R xs ys → xs[i]? = some a → ∃ b, ys[i]? = some b ∧ R a b
  | _, _, i, a, .nil, e => by simp at e
  | _, _, 0, a, .cons r _, e => by simp at e; subst e; exact ⟨_, rfl, r⟩
  | _, _, i + 1, a, .cons _ t, e => by
    obtain ⟨b, h1, h2⟩ := paired_get (i := i) t (by simpa using e)
    exact ⟨b, by simpa using h1, h2⟩
section
variable {C : Cn} {G : Gh} {H : Hp} {σ : SS} {τ : L2.St} {as : List AV} {xs : List V} {args : List SD} {ds : List D} {dvs : List V}
/-- the slot of an argument that may change -/
theorem SR.own (sr : SR C G H σ τ) {i : Nat} {m : MO} (h : argOf σ (.s i) = some (.own m)) : τ[i]? = some (some (.ref (adr τ i))) ∧ RM C H m (adr τ i) := by
  unfold argOf at h
  dsimp only at h
  split at h
  · rename_i m0 e
    cases h
    obtain ⟨v, F, e1, a, rfl, e3, r1⟩ := sr.at e
    have : adr τ i = a := by unfold adr; rw [e1]
    rw [this]; exact ⟨e1, r1⟩
  · rename_i k m0 e
    cases h
    obtain ⟨v, F, e1, rfl, e3, r1⟩ := sr.at e
    have : adr τ i = G.at_ k := by unfold adr; rw [e1]
    rw [this]; exact ⟨e1, r1⟩
  · cases h
theorem args_r (sr : SR C G H σ τ) (ra : RAVs C τ H as xs) (nd : (slots as).Nodup) (ea : argsOf σ as = some args) (rd : RpL C H ds dvs) : RArgs C H (args ++ ds.map SD.val) (xs ++ dvs) (adrs τ as) := by
  have hl := argsOf_len ea
  have hl2 : as.length = xs.length := Paired.length ra
  have inl : ∀ {k : Nat} {m : MO}, (args ++ ds.map SD.val)[k]? = some (SD.own m) → ∃ i, as[k]? = some (.s i) ∧ argOf σ (.s i) = some (.own m) ∧ k < args.length := fun {k m} e => by
    by_cases hk : k < args.length
    · rw [List.getElem?_append_left hk] at e
      obtain ⟨a, e1, e2⟩ := argsOf_get ea e
      cases a with
      | v d => cases e2
      | s i => exact ⟨i, e1, e2, hk⟩
    · rw [List.getElem?_append_right (Nat.le_of_not_lt hk), List.getElem?_map] at e
      cases q : ds[k - args.length]? with
      | none => rw [q] at e; cases e
      | some d => rw [q] at e; cases e
  refine ⟨sr.tabs, by simp [hl, hl2, rd.length], fun k d e => ?_, fun k m e => ?_, fun k j m e => ?_, fun j k ⟨m1, o1⟩ ⟨m2, o2⟩ hn => ?_⟩
  · by_cases hk : k < args.length
    · rw [List.getElem?_append_left hk] at e
      obtain ⟨a, e1, e2⟩ := argsOf_get ea e
      cases a with
      | v d' =>
        cases e2
        obtain ⟨b, q1, q2⟩ := paired_get ra e1
        exact ⟨b, by rw [List.getElem?_append_left (by omega)]; exact q1, q2⟩
      | s i =>
        unfold argOf at e2
        dsimp only at e2
        split at e2 <;> cases e2
    · rw [List.getElem?_append_right (Nat.le_of_not_lt hk), List.getElem?_map] at e
      cases q : ds[k - args.length]? with
      | none => rw [q] at e; cases e
      | some d' =>
        rw [q] at e; cases e
        obtain ⟨b, q1, q2⟩ := rd.get q
        exact ⟨b, by rw [List.getElem?_append_right (by omega), show k - xs.length = k - args.length by omega]; exact q1, q2⟩
  · obtain ⟨i, e1, e2, hk⟩ := inl e
    obtain ⟨q1, q2⟩ := sr.own e2
    obtain ⟨b, q3, q4⟩ := paired_get ra e1
    have q4 : τ[i]? = some (some b) := q4
    rw [q1] at q4; cases q4
    have ad : adrs τ as k = adr τ i := by unfold adrs; rw [e1]
    rw [ad]
    exact ⟨by rw [List.getElem?_append_left (by omega)]; exact q3, q2⟩
  · by_cases hk : k < args.length
    · rw [List.getElem?_append_left hk] at e
      obtain ⟨a, e1, e2⟩ := argsOf_get ea e
      cases a with
      | v d' => cases e2
      | s i =>
        unfold argOf at e2
        dsimp only at e2
        split at e2 <;> cases e2
    · rw [List.getElem?_append_right (Nat.le_of_not_lt hk), List.getElem?_map] at e
      cases q : ds[k - args.length]? with
      | none => rw [q] at e; cases e
      | some d' => rw [q] at e; cases e
  · obtain ⟨i1, e1, f1, _⟩ := inl o1
    obtain ⟨i2, e2, f2, _⟩ := inl o2
    have a1 : adrs τ as j = adr τ i1 := by unfold adrs; rw [e1]
    have a2 : adrs τ as k = adr τ i2 := by unfold adrs; rw [e2]
    rw [a1, a2]
    have hi : i1 ≠ i2 := fun z => by subst z; exact hn (slots_inj nd e1 e2)
    obtain ⟨q1, _⟩ := sr.own f1
    obtain ⟨q2, _⟩ := sr.own f2
    intro z
    obtain ⟨_, _, _, _, F, h1, h2, _, _⟩ := sr
    have mem : ∀ {i : Nat} {m : MO}, argOf σ (.s i) = some (.own m) → τ[i]? = some (some (.ref (adr τ i))) → adr τ i ∈ F i := fun {i m} f q => by
      unfold argOf at f
      dsimp only at f
      split at f
      · rename_i m0 e
        obtain ⟨v, e3, a, e4, e5, _⟩ := h1 i _ e
        rw [q] at e3; cases e3
        cases e4
        rw [e5]; exact List.mem_singleton.mpr rfl
      · rename_i k m0 e
        obtain ⟨v, e3, e4, e5, _⟩ := h1 i _ e
        rw [q] at e3; cases e3
        rw [e5, List.mem_singleton]
        exact V.ref.inj e4
      · cases f
    exact h2 i1 i2 _ hi (mem f1 q1) (z ▸ mem f2 q2)
/-- behind the call -/
theorem sr_back {H' : Hp} {outs : List SD} (sr : SR C G H σ τ) (ra : RAVs C τ H as xs) (ea : argsOf σ as = some args) (rk : RKeep C H H' (args ++ ds.map SD.val) outs (adrs τ as)) : SR C G H' (putBack σ as outs) τ := by
  have hla := argsOf_len ea
  have own_of : ∀ {k i : Nat} {sd : SD}, as[k]? = some (.s i) → σ[i]? = some (some sd) → (∀ d, sd ≠ .val d) → isOwn (args ++ ds.map SD.val) k := fun {k i sd} e q hd => by
    have hk : k < args.length := by rw [hla]; exact (List.getElem?_eq_some_iff.mp e).1
    have e2 : args[k]? = some (args[k]) := List.getElem?_eq_getElem hk
    obtain ⟨a, e3, e4⟩ := argsOf_get ea e2
    rw [e] at e3; cases e3
    unfold argOf at e4
    dsimp only at e4
    rw [q] at e4
    cases sd with
    | val d => exact absurd rfl (hd d)
    | own m => exact ⟨m, by rw [List.getElem?_append_left hk, e2]; exact e4.symm⟩
    | io j m => exact ⟨m, by rw [List.getElem?_append_left hk, e2]; exact e4.symm⟩
  have slot_of : ∀ {k : Nat}, isOwn (args ++ ds.map SD.val) k → ∃ i m, as[k]? = some (.s i) ∧ argOf σ (.s i) = some (.own m) := fun {k} ⟨m, e⟩ => by
    by_cases hk : k < args.length
    · rw [List.getElem?_append_left hk] at e
      obtain ⟨a, e1, e2⟩ := argsOf_get ea e
      cases a with
      | v d => cases e2
      | s i => exact ⟨i, m, e1, e2⟩
    · rw [List.getElem?_append_right (Nat.le_of_not_lt hk), List.getElem?_map] at e
      cases q : ds[k - args.length]? with
      | none => rw [q] at e; cases e
      | some d => rw [q] at e; cases e
  have sr0 := sr
  obtain ⟨l, g, nt, tb, F, h1, h2, h3, h4⟩ := sr
  have inF : ∀ {k : Nat}, isOwn (args ++ ds.map SD.val) k → ∃ i, as[k]? = some (.s i) ∧ adrs τ as k ∈ F i := fun {k} o => by
    obtain ⟨i, m, e1, e2⟩ := slot_of o
    obtain ⟨q1, _⟩ := sr0.own e2
    have ad : adrs τ as k = adr τ i := by unfold adrs; rw [e1]
    refine ⟨i, e1, ?_⟩
    rw [ad]
    unfold argOf at e2
    dsimp only at e2
    split at e2
    · rename_i m0 e
      obtain ⟨v, e3, a, e4, e5, _⟩ := h1 i _ e
      rw [q1] at e3; cases e3
      cases e4
      rw [e5]; exact List.mem_singleton.mpr rfl
    · rename_i j m0 e
      obtain ⟨v, e3, e4, e5, _⟩ := h1 i _ e
      rw [q1] at e3; cases e3
      rw [e5, List.mem_singleton]
      exact V.ref.inj e4
    · cases e2
  refine ⟨by rw [putBack_len]; exact l, fun a o e => rk.old a o (g a o e) (nt a o e) fun k o1 z => ?_, nt, rk.fx.2 _ tb, F, fun i sd e => ?_, h2, h3, fun i hn => h4 i fun sd e => ?_⟩
  · obtain ⟨i, _, hm⟩ := inF o1
    have := h3 i _ hm
    rw [z, e] at this; cases this
  · rw [putBack_get] at e
    cases q : σ[i]? with
    | none => rw [q] at e; cases e
    | some s =>
      rw [q] at e
      have e : repl (found i as outs) s = some sd := Option.some.inj e
      cases s with
      | none => cases hf : found i as outs with
        | none => rw [hf] at e; cases e
        | some m => rw [hf] at e; cases e
      | some sd0 =>
        obtain ⟨v, e1, r1⟩ := h1 i sd0 q
        refine ⟨v, e1, ?_⟩
        cases hf : found i as outs with
        | none =>
          rw [hf, repl_none] at e
          cases e
          refine r1.keep rk.fx fun a ha => ?_
          obtain ⟨o, q1, q0⟩ := r1.there ha
          rw [q1]
          refine rk.old a o q1 (r1.nt ha q1) fun k ok z => ?_
          obtain ⟨i2, e2, hm⟩ := inF ok
          have hi : i2 = i := by
            by_cases hi : i2 = i
            · exact hi
            · exact (h2 i2 i a hi (z ▸ hm) ha).elim
          subst hi
          obtain ⟨m', eo, _⟩ := rk.out k ok
          exact found_none (k := k) hf e2 eo
        | some m =>
          obtain ⟨k, k1, k2⟩ := found_some hf
          rw [hf] at e
          cases sd0 with
          | val d => cases e; exact ⟨r1.1.fx rk.fx, r1.2⟩
          | own m0 =>
            cases e
            obtain ⟨a, ev, eF, rm⟩ := r1
            obtain ⟨m', eo, rm'⟩ := rk.out k (own_of k1 q fun d z => by cases z)
            rw [k2] at eo; cases eo
            have ad : adrs τ as k = a := by unfold adrs; rw [k1]; dsimp only; unfold adr; rw [e1, ev]
            rw [ad] at rm'
            exact ⟨a, ev, eF, rm'⟩
          | io j m0 =>
            cases e
            obtain ⟨ev, eF, rm⟩ := r1
            obtain ⟨m', eo, rm'⟩ := rk.out k (own_of k1 q fun d z => by cases z)
            rw [k2] at eo; cases eo
            have ad : adrs τ as k = G.at_ j := by unfold adrs; rw [k1]; dsimp only; unfold adr; rw [e1, ev]
            rw [ad] at rm'
            exact ⟨ev, eF, rm'⟩
  · cases hf : found i as outs with
    | none => exact hn sd (by rw [putBack_get, e, hf]; exact congrArg some (repl_none _))
    | some m =>
      cases sd with
      | val d => exact hn (.val d) (by rw [putBack_get, e, hf]; rfl)
      | own m0 => exact hn (.own m) (by rw [putBack_get, e, hf]; rfl)
      | io j m0 => exact hn (.io j m) (by rw [putBack_get, e, hf]; rfl)
end

section
variable {X : Cx} {C : Cn} {k : Nat} {f : Addr} {fd : FuncData} {ps : List Str} {F : FT} {dvs : List V} {ds : List Value} {dD : List D} {x : Str} {p pos : Pos} {e : Expr} {es : List Expr}
theorem run_fnT {W : WX} {pins : List (Addr × Obj)} {τ : L2.St} {H : Hp} {s : Shared} {Q : VK} {us : List Value} {vs : List V} {E' : Value → Shared → Prop} (Fn : FnT X.prog X.w X.K X.mg X.base C k f fd ps F) (hr : TRoom k X.A) (hb : Binds X.K fd ps ds) (hd : Vals dvs ds)
    (tk : Takes (X.wish E') W) (I : Inv (X.wish E') pins τ H s) (r : Vals vs us) (h : spT C F (vs ++ dvs) H Q fun cls d H' => W cls d τ H') : wpAny (model X.prog X.w) X.A (call (.ref f) us) (EP (X.wish E') pins τ Q) E' s := by
  have r2 : Vals (vs ++ dvs) (us ++ ds) := r.append hd
  have hl : (us ++ ds).length = ps.length := by rw [← r2.length]; exact spT_len Fn h
  refine wpAny_call (codeAny_mono (Fn.run X.A X.stack s H ⟨us, []⟩ (us ++ ds) (vs ++ dvs) Q (fun cls d H' => W cls d τ H') hr I.env0 (hb s us I.kIn hl) r2 h) fun r s' hq => ?_)
  cases r with
  | error e => exact tk e s' (XE.of_call I (fun cls d H' h => h) hq)
  | ok fl =>
    cases fl with
    | ret u => exact I.after hq
    | next => exact False.elim hq
    | brk => exact False.elim hq
    | cont => exact False.elim hq
theorem call_core {W : WX} {τ : L2.St} {H : Hp} {Q : VK} {m : SS → O (List AV)} (hd : ∀ H, RpL C H dD dvs) (h : tE C W (sCall F dD m) τ H Q) : tG (RAVs C) C W m τ H fun xs H1 => spT C F (xs ++ dvs) H1 Q fun cls d H' => W cls d τ H' := by
  refine (tG_bind (R := RAVs C) h).mono fun xs H1 ⟨as, ra, f1, G, σ, sr, p⟩ => ?_
  dsimp only at p
  split at p
  · rename_i nd
    split at p
    · rename_i args ea
      refine ⟨args ++ dD.map SD.val, adrs τ as, args_r sr ra nd ea (hd H1), ?_⟩
      cases e : F (args ++ dD.map SD.val) with
      | bad => rw [e] at p; exact p
      | ok d outs => rw [e] at p; exact fun v H' rv rk => p v H' rv (sr_back sr ra ea rk) rk.fx
      | okm m2 outs => rw [e] at p; exact p.elim
      | ex x outs => rw [e] at p; exact fun cls dd H' rx rk => p cls dd H' rx (sr_back sr ra ea rk) rk.fx
    · exact p.elim
  · exact p.elim
theorem me_call {m : SS → O (List AV)} (Fn : FnT X.prog X.w X.K X.mg X.base C k f fd ps F) (hr : TRoom k X.A) (hg : Gl X x) (hm : X.mg x = some (.ref f)) (hk : PySem.W.keepIn X.K (.ref f) = true) (hb : Binds X.K fd ps ds) (hd : Vals dvs ds) (hdd : ∀ H, RpL C H dD dvs)
    (ha : MAV X C (e :: es) m) (hdb : (x == ("__debug__" : Str)) = false := by decide) (he : starEach (e :: es) X.env = (false, eval e X.env) :: starEach es X.env := by rfl) (hpl : (backTo pos (starEach es X.env)).any (·.1) = false := by rfl) :
    ME X C (.Call (.Name x p) (e :: es) [] pos) (sCall F dD m) := by
  refine ⟨fun E W tk => ⟨fun pins s τ H Q I h => ?_⟩⟩
  refine wpAny_Call_Name_kw (ld_glob I hg hm ?_ hdb)
  refine PySem.W.callWith_K (h₀ := X.base) I.ok.mod.kin hk (thn ((ha.pa E W tk).run pos pins s τ H _ I (call_core hdd h)) fun us s1 ⟨vs, H1, I1, r, q⟩ => ⟨I1.kIn, ?_⟩) he hpl
  exact run_fnT Fn hr hb hd tk I1 r q
theorem me_call0 (Fn : FnT X.prog X.w X.K X.mg X.base C k f fd ps F) (hr : TRoom k X.A) (hg : Gl X x) (hm : X.mg x = some (.ref f)) (hk : PySem.W.keepIn X.K (.ref f) = true) (hb : Binds X.K fd ps ds) (hd : Vals dvs ds) (hdd : ∀ H, RpL C H dD dvs)
    (hdb : (x == ("__debug__" : Str)) = false := by decide) : ME X C (.Call (.Name x p) [] [] pos) (sCall F dD sANil) := by
  refine ⟨fun E W tk => ⟨fun pins s τ H Q I h => ?_⟩⟩
  refine wpAny_Call_Name_kw (ld_glob I hg hm ?_ hdb)
  have q := tG_ret (R := RAVs C) (b := []) (call_core hdd h) [] .nil
  exact PySem.W.callWith_K0 I.kIn hk (run_fnT (us := []) Fn hr hb hd tk I .nil q)
end
end TL

set_option Elab.async false
set_option linter.all false
set_option maxRecDepth 100000
set_option maxHeartbeats 4000000
/-! TL7: statements. -/
namespace TL
open PySem PySem.Spec PyProof.Rows L2

def O.bindS {α : Type} (o : O α) (f : α → SS → OS) : OS := match o with
  | .ok a σ => f a σ
  | .ex x σ => .ex x σ
  | .bad => .bad
def sSeq (m n : SS → OS) : SS → OS := fun σ => match m σ with
  | .nx σ1 => n σ1
  | o => o
section
variable {C : Cn} {W : WX} {τ : L2.St} {H : Hp} {D' : Ends}
theorem tSt_bind {β γ : Type} {R : L2.St → Hp → β → γ → Prop} {m : SS → O β} {f : β → SS → OS} (h : tSt C W (fun σ => (m σ).bindS f) D' τ H) : tG R C W m τ H fun x H1 => ∃ b, R τ H1 b x ∧ Fx H H1 ∧ tSt C W (f b) D' τ H1 := by
  obtain ⟨G, σ, r, p⟩ := h
  have p : PostS C W G τ H ((m σ).bindS f) D' := p
  refine ⟨G, σ, r, ?_⟩
  cases e : m σ with
  | bad => rw [e] at p; exact p
  | ex x σ' => rw [e] at p; exact fun cls d H' a b c => p cls d τ H' a b c
  | ok b σ' =>
    rw [e] at p
    have p : PostS C W G τ H (f b σ') D' := p
    intro v H1 a b1 c
    refine ⟨b, a, c, G, σ', b1, ?_⟩
    cases e2 : f b σ' with
    | bad => rw [e2] at p; exact p
    | nx σ2 => rw [e2] at p; exact fun τ2 H2 q1 q2 => p τ2 H2 q1 (c.trans q2)
    | bk σ2 => rw [e2] at p; exact fun τ2 H2 q1 q2 => p τ2 H2 q1 (c.trans q2)
    | ct σ2 => rw [e2] at p; exact fun τ2 H2 q1 q2 => p τ2 H2 q1 (c.trans q2)
    | rt d σ2 => rw [e2] at p; exact fun v τ2 H2 q0 q1 q2 => p v τ2 H2 q0 q1 (c.trans q2)
    | rtm m2 σ2 => rw [e2] at p; exact fun a2 o2 τ2 H2 q0 q1 q2 q3 q4 => p a2 o2 τ2 H2 q0 q1 q2 q3 (c.trans q4)
    | ex x σ2 => rw [e2] at p; exact fun cls d τ2 H2 q0 q1 q2 => p cls d τ2 H2 q0 q1 (c.trans q2)
theorem PostS.fx {G : Gh} {H1 : Hp} {τ' : L2.St} {o : OS} (p : PostS C W G τ H o D') (c : Fx H H1) : PostS C W G τ' H1 o D' := by
  cases o with
  | bad => exact p
  | nx σ2 => exact fun τ2 H2 q1 q2 => p τ2 H2 q1 (c.trans q2)
  | bk σ2 => exact fun τ2 H2 q1 q2 => p τ2 H2 q1 (c.trans q2)
  | ct σ2 => exact fun τ2 H2 q1 q2 => p τ2 H2 q1 (c.trans q2)
  | rt d σ2 => exact fun v τ2 H2 q0 q1 q2 => p v τ2 H2 q0 q1 (c.trans q2)
  | rtm m2 σ2 => exact fun a2 o2 τ2 H2 q0 q1 q2 q3 q4 => p a2 o2 τ2 H2 q0 q1 q2 q3 (c.trans q4)
  | ex x σ2 => exact fun cls d τ2 H2 q0 q1 q2 => p cls d τ2 H2 q0 q1 (c.trans q2)
theorem tSt_nx {f : SS → SS} (h : tSt C W (fun σ => .nx (f σ)) D' τ H) : ∃ G σ, SR C G H σ τ ∧ ∀ τ' H', SR C G H' (f σ) τ' → Fx H H' → D'.nx τ' H' := h
end
section
variable {X : Cx} {C : Cn} {st : Stmt} {rest : List Stmt} {pos : Pos} {e : Expr}
theorem mss_nil : MSs X C [] (fun σ => .nx σ) := ⟨fun E W tk pw => pss_nil.imp fun D' τ H ⟨G, σ, sr, p⟩ => p τ H sr (.refl H)⟩
theorem mss_cons {m n : SS → OS} (h : MS X C st m) (g : MSs X C rest n) : MSs X C (st :: rest) (sSeq m n) := by
  refine ⟨fun E W tk pw => (pss_cons (h.ps E W tk pw) (g.ps E W tk pw)).imp fun D' τ H ⟨G, σ, sr, p⟩ => ⟨G, σ, sr, ?_⟩⟩
  have p : PostS C W G τ H (match m σ with | .nx σ1 => n σ1 | o => o) D' := p
  cases q : m σ with
  | nx σ1 => rw [q] at p; exact fun τ' H' s1 f1 => ⟨G, σ1, s1, p.fx f1⟩
  | bad => rw [q] at p; exact p
  | bk σ2 => rw [q] at p; exact p
  | ct σ2 => rw [q] at p; exact p
  | rt d σ2 => rw [q] at p; exact p
  | rtm m2 σ2 => rw [q] at p; exact p
  | ex x σ2 => rw [q] at p; exact p
theorem mss_one {m : SS → OS} (h : MS X C st m) : MSs X C [st] m := ⟨fun E W tk pw => pss_one (h.ps E W tk pw)⟩
theorem ms_pass : MS X C (.Pass pos) (fun σ => .nx σ) := ⟨fun E W tk pw => ps_pass.imp fun D' τ H ⟨G, σ, sr, p⟩ => p τ H sr (.refl H)⟩
theorem ms_break : MS X C (.Break pos) (fun σ => .bk σ) := ⟨fun E W tk pw => ps_break.imp fun D' τ H ⟨G, σ, sr, p⟩ => p τ H sr (.refl H)⟩
theorem ms_continue : MS X C (.Continue pos) (fun σ => .ct σ) := ⟨fun E W tk pw => ps_continue.imp fun D' τ H ⟨G, σ, sr, p⟩ => p τ H sr (.refl H)⟩
def sExpr (m : SS → O D) : SS → OS := fun σ => (m σ).bindS fun _ σ1 => .nx σ1
theorem ms_expr {m : SS → O D} (h : ME X C e m) (hs : swapsWith e none pos.line X.env = pure false := by rfl) : MS X C (.Expr e pos) (sExpr m) :=
  ⟨fun E W tk pw => (ps_expr (h.pe E W tk) hs).imp fun D' τ H q => (tSt_bind (R := fun _ => Rp C) q).mono fun x H1 ⟨d, r, f, G, σ, sr, p⟩ => p τ H1 sr (.refl _)⟩
def sRet (m : SS → O D) : SS → OS := fun σ => (m σ).bindS fun d σ1 => .rt d σ1
theorem ms_ret {m : SS → O D} (h : ME X C e m) : MS X C (.Return (some e) pos) (sRet m) :=
  ⟨fun E W tk pw => (ps_ret (h.pe E W tk)).imp fun D' τ H q => (tSt_bind (R := fun _ => Rp C) q).mono fun x H1 ⟨d, r, f, G, σ, sr, p⟩ => p x τ H1 r sr (.refl _)⟩
theorem ms_retN : MS X C (.Return none pos) (fun σ => .rt .non σ) := ⟨fun E W tk pw => ps_retN.imp fun D' τ H ⟨G, σ, sr, p⟩ => p .non τ H .n sr (.refl H)⟩
def sIfS (c : SS → O Bool) (m n : SS → OS) : SS → OS := fun σ => (c σ).bindS fun k σ1 => if k = true then m σ1 else n σ1
theorem ms_if {c : Expr} {a b : List Stmt} {mc : SS → O Bool} {m n : SS → OS} (hc : MT X C c mc) (ha : MSs X C a m) (hb : MSs X C b n) : MS X C (.If c a b pos) (sIfS mc m n) := by
  refine ⟨fun E W tk pw => (ps_if (hc.pt E W tk) (ha.ps E W tk pw) (hb.ps E W tk pw)).imp fun D' τ H q => ?_⟩
  refine (tSt_bind (R := fun _ _ b b' => b' = b) q).mono fun k H1 ⟨k', r, f1, h1⟩ => ?_
  subst r
  cases k with
  | true => exact iteT h1
  | false => exact iteF h1
/-- x = e -/
def sSet (i : Nat) (m : SS → O D) : SS → OS := fun σ => (m σ).bindS fun d σ1 => .nx (σ1.set i (some (.val d)))
theorem ms_set {m : SS → O D} (i : Nat) {x : Str} {pos' : Pos} (hN : X.N.Nodup) (hi : X.N[i]? = some x) (hx : Loc X.env.scope x) (h : ME X C e m) (hs : swapsWith e (some (.Name x pos')) pos.line X.env = pure false := by rfl)
    (hf : X.fn x = true ∨ X.env.scope.names.lookup x = some .local := by first | exact .inl rfl | exact .inr rfl | assumption) : MS X C (.Assign [.Name x pos'] e pos) (sSet i m) := by
  refine ⟨fun E W tk pw => (ps_set (X := X.wish E) hN hi hx (h.pe E W tk) hs hf).imp fun D' τ H q => ?_⟩
  exact (tSt_bind (R := fun _ => Rp C) q).mono fun x H1 ⟨d, r, f, G, σ, sr, p⟩ => p _ H1 (sr.setVal r) (.refl _)
/-- x = a new list -/
def sOwn (i : Nat) (m : SS → O (List D)) : SS → OS := fun σ => (m σ).bindS fun ds σ1 => .nx (σ1.set i (some (.own (.lst ds))))
theorem tF_core {W : WX} {D' : Ends} {τ : L2.St} {H : Hp} {i : Nat} {m : SS → O (List D)} (h : tSt C W (sOwn i m) D' τ H) : tF C W m τ H fun v H1 => D'.nx (τ.set i (some v)) H1 := by
  obtain ⟨G, σ, r, p⟩ := h
  have p : PostS C W G τ H ((m σ).bindS fun ds σ1 => .nx (σ1.set i (some (.own (.lst ds))))) D' := p
  refine ⟨G, σ, r, ?_⟩
  cases e : m σ with
  | bad => rw [e] at p; exact p
  | ex x σ' => rw [e] at p; exact fun cls d H' a b c => p cls d τ H' a b c
  | ok ds σ' =>
    rw [e] at p
    exact fun a vs H' h1 h2 h3 h4 f => p _ H' (h4.setOwn h3 ⟨vs, h1, h2⟩) f
theorem ms_own {m : SS → O (List D)} (i : Nat) {x : Str} {pos' : Pos} (hN : X.N.Nodup) (hi : X.N[i]? = some x) (hx : Loc X.env.scope x) (h : MF X C e m) (hs : swapsWith e (some (.Name x pos')) pos.line X.env = pure false := by rfl)
    (hf : X.fn x = true ∨ X.env.scope.names.lookup x = some .local := by first | exact .inl rfl | exact .inr rfl | assumption) : MS X C (.Assign [.Name x pos'] e pos) (sOwn i m) :=
  ⟨fun E W tk pw => (ps_set (X := X.wish E) hN hi hx (h.pe E W tk) hs hf).imp fun D' τ H q => tF_core q⟩
/-- x op= e -/
def sAug (i : Nat) (f : D → D → Option D) (m : SS → O D) : SS → OS := fun σ => match look σ i with
  | some a => (m σ).bindS fun d σ1 => match f a d with
    | some r => .nx (σ1.set i (some (.val r)))
    | none => .bad
  | none => .bad
end

/-! ### several targets -/
def GX (C : Cn) (H : Hp) : List SD → List V → Hp → Hp → Prop
  | [], xs, g, g' => xs = [] ∧ g' = g
  | .val d :: ds, xs, g, g' => ∃ x r, xs = x :: r ∧ Rp C H d x ∧ GX C H ds r g g'
  | .own (.lst ls) :: ds, xs, g, g' => ∃ a vs r, xs = .ref a :: r ∧ H a = some (.lst vs) ∧ RpL C H ls vs ∧ g a = none ∧ GX C H ds r (upd g a (.lst vs)) g'
  | _ :: _, _, _, _ => False
def PostM (C : Cn) (W : WX) (τ : L2.St) (G : Gh) (H : Hp) (o : O (List SD)) (Q : List V → Hp → Prop) : Prop := match o with
  | .bad => False
  | .ok ds σ' => ∀ xs H' g', GX C H' ds xs G.hp g' → SR C ⟨g', G.at_⟩ H' σ' τ → Fx H H' → Q xs H'
  | .ex x σ' => ∀ cls d H', RX C H' x cls d → SR C G H' σ' τ → Fx H H' → W cls d τ H'
def tM (C : Cn) (W : WX) (m : SS → O (List SD)) : TA := fun τ H Q => ∃ G σ, SR C G H σ τ ∧ PostM C W τ G H (m σ) Q
structure MM (X : Cx) (C : Cn) (es : List Expr) (m : SS → O (List SD)) : Prop where
  pa : ∀ E W, Takes (X.wish E) W → PA (X.wish E) es (tM C W m)
def sMNil : SS → O (List SD) := fun σ => .ok [] σ
def sMV (a : SS → O D) (m : SS → O (List SD)) : SS → O (List SD) := fun σ => (a σ).bind fun d σ1 => (m σ1).bind fun ds σ2 => .ok (.val d :: ds) σ2
def sMF (a : SS → O (List D)) (m : SS → O (List SD)) : SS → O (List SD) := fun σ => (a σ).bind fun d σ1 => (m σ1).bind fun ds σ2 => .ok (.own (.lst d) :: ds) σ2
theorem GX.sub {C : Cn} {H : Hp} : ∀ {ds : List SD} {xs : List V} {g g' : Hp}, GX C H ds xs g g' → ∀ a o, g a = some o → g' a = some o
  | [], _, _, _, h, a, o, e => by obtain ⟨_, rfl⟩ := h; exact e
  | .val d :: ds, _, _, _, h, a, o, e => by obtain ⟨x, r, _, _, h⟩ := h; exact GX.sub h a o e
  | .own (.lst ls) :: ds, _, g, g', h, a, o, e => by
    obtain ⟨b, vs, r, _, _, _, n, h⟩ := h
    refine GX.sub h a o ?_
    rw [upd_ne (show a ≠ b by rintro rfl; rw [n] at e; cases e)]
    exact e
  | .own (.dct _) :: _, _, _, _, h, _, _, _ => h.elim
  | .io _ _ :: _, _, _, _, h, _, _, _ => h.elim
section
variable {X : Cx} {C : Cn} {e : Expr} {es : List Expr}
theorem mm_nil : MM X C [] sMNil := ⟨fun E W tk => pa_nil.imp fun τ H Q ⟨G, σ, sr, p⟩ => p [] H G.hp ⟨rfl, rfl⟩ sr (.refl H)⟩
theorem mm_val {a : SS → O D} {m : SS → O (List SD)} (ha : ME X C e a) (hm : MM X C es m) (hs : starEach (e :: es) X.env = (false, eval e X.env) :: starEach es X.env := by rfl) : MM X C (e :: es) (sMV a m) := by
  refine ⟨fun E W tk => (pa_cons (ha.pe E W tk) (hm.pa E W tk) hs).imp fun τ H Q ⟨G, σ, sr, p⟩ => ⟨G, σ, sr, ?_⟩⟩
  have p : PostM C W τ G H ((a σ).bind fun d σ1 => (m σ1).bind fun ds σ2 => .ok (.val d :: ds) σ2) Q := p
  cases e1 : a σ with
  | bad => rw [e1] at p; exact p
  | ex x σ' => rw [e1] at p; exact p
  | ok d σ1 =>
    rw [e1] at p
    have p : PostM C W τ G H ((m σ1).bind fun ds σ2 => .ok (.val d :: ds) σ2) Q := p
    intro x H1 r1 s1 f1
    refine ⟨G, σ1, s1, ?_⟩
    cases e2 : m σ1 with
    | bad => rw [e2] at p; exact p
    | ex x σ' => rw [e2] at p; exact fun cls d H' q1 q2 q3 => p cls d H' q1 q2 (f1.trans q3)
    | ok ds σ2 =>
      rw [e2] at p
      exact fun xs H2 g' gx s2 f2 => p (x :: xs) H2 g' ⟨x, xs, rfl, r1.fx f2, gx⟩ s2 (f1.trans f2)
theorem mm_new {a : SS → O (List D)} {m : SS → O (List SD)} (ha : MF X C e a) (hm : MM X C es m) (hs : starEach (e :: es) X.env = (false, eval e X.env) :: starEach es X.env := by rfl) : MM X C (e :: es) (sMF a m) := by
  refine ⟨fun E W tk => (pa_cons (ha.pe E W tk) (hm.pa E W tk) hs).imp fun τ H Q ⟨G, σ, sr, p⟩ => ⟨G, σ, sr, ?_⟩⟩
  have p : PostM C W τ G H ((a σ).bind fun d σ1 => (m σ1).bind fun ds σ2 => .ok (.own (.lst d) :: ds) σ2) Q := p
  cases e1 : a σ with
  | bad => rw [e1] at p; exact p
  | ex x σ' => rw [e1] at p; exact p
  | ok d σ1 =>
    rw [e1] at p
    have p : PostM C W τ G H ((m σ1).bind fun ds σ2 => .ok (.own (.lst d) :: ds) σ2) Q := p
    intro b vs H1 h1 h2 h3 s1 f1
    refine ⟨⟨upd G.hp b (.lst vs), G.at_⟩, σ1, s1, ?_⟩
    cases e2 : m σ1 with
    | bad => rw [e2] at p; exact p
    | ex x σ' => rw [e2] at p; exact fun cls d H' q1 q2 q3 => p cls d H' q1 (q2.freeG h3) (f1.trans q3)
    | ok ds σ2 =>
      rw [e2] at p
      refine fun xs H2 g' gx s2 f2 => p (.ref b :: xs) H2 g' ⟨b, vs, xs, rfl, ?_, h2.fx f2, h3, gx⟩ s2 (f1.trans f2)
      exact s2.gr b _ (gx.sub b _ upd_same)
end
/-- the values go to the slots, one after another -/
def setMany (σ : SS) : List Nat → List SD → SS
  | i :: is, sd :: ds => setMany (σ.set i (some sd)) is ds
  | _, _ => σ
def setManyV (τ : L2.St) : List Nat → List V → L2.St
  | i :: is, v :: vs => setManyV (τ.set i (some v)) is vs
  | _, _ => τ
def delG (g : Hp) (a : Addr) : Hp := fun b => if b = a then none else g b
theorem delG_ne {g : Hp} {a b : Addr} (h : b ≠ a) : delG g a b = g b := if_neg h
theorem delG_same {g : Hp} {a : Addr} : delG g a a = none := if_pos rfl
theorem upd_delG {g : Hp} {a : Addr} {o : HO} (h : g a = some o) : upd (delG g a) a o = g := by
  funext b
  by_cases e : b = a
  · subst e; rw [upd_same, h]
  · rw [upd_ne e, delG_ne e]
theorem GX.len {C : Cn} {H : Hp} : ∀ {ds : List SD} {xs : List V} {g g' : Hp}, GX C H ds xs g g' → xs.length = ds.length
  | [], _, _, _, h => by obtain ⟨rfl, _⟩ := h; rfl
  | .val d :: ds, _, _, _, h => by obtain ⟨x, r, rfl, _, h⟩ := h; simp [GX.len h]
  | .own (.lst ls) :: ds, _, g, g', h => by obtain ⟨b, vs, r, rfl, _, _, n, h⟩ := h; simp [GX.len h]
  | .own (.dct _) :: _, _, _, _, h => h.elim
  | .io _ _ :: _, _, _, _, h => h.elim
/-- g0: what was there ahead of all; gg: what still is nobody's -/
theorem sr_many {C : Cn} {H : Hp} {at_ : Nat → Addr} {g0 : Hp} : ∀ {ds : List SD} {xs : List V} {is : List Nat} {g g' gg : Hp} {σ : SS} {τ : L2.St}, GX C H ds xs g g' → is.length = ds.length → (∀ a o, g0 a = some o → g a = some o) → (∀ a o, g' a = some o → (g a = some o → g0 a = some o) → gg a = some o) → SR C ⟨gg, at_⟩ H σ τ →
    SR C ⟨g0, at_⟩ H (setMany σ is ds) (setManyV τ is xs)
  | [], xs, is, g, g', gg, σ, τ, h, hl, h0, hk, sr => by
    obtain ⟨rfl, rfl⟩ := h
    cases is with
    | nil => exact sr.weakG rfl fun a o e => hk a o (h0 a o e) fun _ => e
    | cons i is => simp at hl
  | .val d :: ds, xs, is, g, g', gg, σ, τ, h, hl, h0, hk, sr => by
    obtain ⟨x, r, rfl, rx, h⟩ := h
    cases is with
    | nil => simp at hl
    | cons i is =>
      show SR C ⟨g0, at_⟩ H (setMany (σ.set i (some (.val d))) is ds) (setManyV (τ.set i (some x)) is r)
      exact sr_many h (by simpa using hl) h0 hk (sr.setVal rx)
  | .own (.lst ls) :: ds, xs, is, g, g', gg, σ, τ, h, hl, h0, hk, sr => by
    obtain ⟨a, vs, r, rfl, ha, rl, n, h⟩ := h
    cases is with
    | nil => simp at hl
    | cons i is =>
      show SR C ⟨g0, at_⟩ H (setMany (σ.set i (some (.own (.lst ls)))) is ds) (setManyV (τ.set i (some (.ref a))) is r)
      have g0a : g0 a = none := by
        cases q : g0 a with
        | none => rfl
        | some o => rw [h0 a o q] at n; cases n
      have gga : gg a = some (.lst vs) := hk a _ (h.sub a _ upd_same) fun z => by rw [n] at z; cases z
      refine sr_many (gg := delG gg a) h (by simpa using hl) (fun b o e => ?_) (fun b o e w => ?_) ?_
      · rw [upd_ne (show b ≠ a by rintro rfl; rw [g0a] at e; cases e)]
        exact h0 b o e
      · have hb : b ≠ a := by
          rintro rfl
          have q := h.sub b _ upd_same
          rw [e] at q; cases q
          have := w upd_same
          rw [g0a] at this; cases this
        rw [delG_ne hb]
        exact hk b o e fun z => w (by rw [upd_ne hb]; exact z)
      · refine SR.setOwn (G := ⟨delG gg a, at_⟩) (o := .lst vs) ?_ delG_same ⟨vs, ha, rl⟩
        show SR C ⟨upd (delG gg a) a (.lst vs), at_⟩ H σ τ
        rw [upd_delG gga]
        exact sr
  | .own (.dct _) :: _, _, _, _, _, _, _, _, h, _, _, _, _ => h.elim
  | .io _ _ :: _, _, _, _, _, _, _, _, h, _, _, _, _ => h.elim
section
variable {X : Cx} {C : Cn} {pos : Pos}
def sMany (is : List Nat) (m : SS → O (List SD)) : SS → OS := fun σ => (m σ).bindS fun ds σ1 => if ds.length = is.length then .nx (setMany σ1 is ds) else .bad
theorem many_core {W : WX} {D' : Ends} {τ : L2.St} {H : Hp} {is : List Nat} {m : SS → O (List SD)} (h : tSt C W (sMany is m) D' τ H) : tM C W m τ H fun xs H1 => xs.length = is.length ∧ ∀ H2, Same H1 H2 → D'.nx (setManyV τ is xs) H2 := by
  obtain ⟨G, σ, sr, p⟩ := h
  have p : PostS C W G τ H ((m σ).bindS fun ds σ1 => if ds.length = is.length then .nx (setMany σ1 is ds) else .bad) D' := p
  refine ⟨G, σ, sr, ?_⟩
  cases e : m σ with
  | bad => rw [e] at p; exact p
  | ex x σ' => rw [e] at p; exact fun cls d H' a b c => p cls d τ H' a b c
  | ok ds σ' =>
    rw [e] at p
    have p : PostS C W G τ H (if ds.length = is.length then .nx (setMany σ' is ds) else .bad) D' := p
    intro xs H1 g' gx s1 f1
    split at p
    · rename_i hl
      refine ⟨gx.len.trans hl, fun H2 sm => p _ H2 ?_ (f1.trans (.of_same sm))⟩
      exact (sr_many gx hl.symm (fun a o e => e) (fun a o e w => e) s1).same sm
    · exact p.elim
theorem ms_par {i j : Nat} {x y : Str} {a b : Expr} {px py pt : Pos} {kt k2 pt2} {m : SS → O (List SD)} (hc : X.calm = true) (hN : X.N.Nodup) (hi : X.N[i]? = some x) (hj : X.N[j]? = some y) (hij : i ≠ j)
    (hx : X.env.scope.names.lookup x = some .local) (hy : X.env.scope.names.lookup y = some .local) (ha : MM X C [a, b] m)
    (hw : swappedStores [.Tuple [.Name x px, .Name y py] kt pt] (.Tuple [a, b] k2 pt2) X.env = pure (some [x, y]))
    (hs : swapsWithSole [.Tuple [.Name x px, .Name y py] kt pt] (.Tuple [a, b] k2 pt2) pos.line X.env = pure false := by rfl) :
    MS X C (.Assign [.Tuple [.Name x px, .Name y py] kt pt] (.Tuple [a, b] k2 pt2) pos) (sMany [i, j] m) := by
  refine ⟨fun E W tk pw => (ps_par (X := X.wish E) hc hN hi hj hij hx hy (ha.pa E W tk) hw hs).imp fun D' τ H q => ?_⟩
  obtain ⟨G, σ, sr, p⟩ := many_core q
  refine ⟨G, σ, sr, ?_⟩
  cases e : m σ with
  | bad => rw [e] at p; exact p
  | ex x σ' => rw [e] at p; exact p
  | ok ds σ' =>
    rw [e] at p
    intro xs H1 g' gx s1 f1
    obtain ⟨hl, k⟩ := p xs H1 g' gx s1 f1
    match xs, hl with
    | [v, w], _ => exact ⟨v, w, rfl, k H1 (.refl _)⟩
end
end TL

set_option Elab.async false
set_option linter.all false
set_option maxRecDepth 100000
set_option maxHeartbeats 4000000
/-! TL8: targets, loops, lists that change. -/
namespace TL
open PySem PySem.Spec PyProof.Rows L2

/-! ### targets -/
/-- only these slots are written -/
def Wr (ws : List Nat) (τ τ' : L2.St) : Prop := τ'.length = τ.length ∧ ∀ j, j ∉ ws → τ'[j]? = τ[j]?
theorem Wr.refl {ws : List Nat} {τ : L2.St} : Wr ws τ τ := ⟨rfl, fun _ _ => rfl⟩
def tGt (C : Cn) (ws : List Nat) (g : D → SS → Option SS) : TG := fun x τ H Q => ∃ d G σ σ', Rp C H d x ∧ SR C G H σ τ ∧ g d σ = some σ' ∧ ∀ τ', SR C G H σ' τ' → Wr ws τ τ' → Q τ' H
def tGts (C : Cn) (ws : List Nat) (g : List D → SS → Option SS) : TGs := fun xs τ H Q => ∃ ds G σ σ', RpL C H ds xs ∧ SR C G H σ τ ∧ g ds σ = some σ' ∧ ∀ τ', SR C G H σ' τ' → Wr ws τ τ' → Q τ' H
structure MG (X : Cx) (C : Cn) (tg : Expr) (ws : List Nat) (g : D → SS → Option SS) : Prop where
  pg : ∀ E, PG (X.wish E) tg (tGt C ws g)
structure MGs (X : Cx) (C : Cn) (ts : List Expr) (ws : List Nat) (g : List D → SS → Option SS) : Prop where
  pgs : ∀ E, PGs (X.wish E) ts (tGts C ws g)
def gN (i : Nat) : D → SS → Option SS := fun d σ => some (σ.set i (some (.val d)))
def gT (g : List D → SS → Option SS) : D → SS → Option SS := fun d σ => match d with
  | .tup ds => g ds σ
  | _ => none
def gZ : List D → SS → Option SS := fun ds σ => match ds with
  | [] => some σ
  | _ => none
def gC (g : D → SS → Option SS) (r : List D → SS → Option SS) : List D → SS → Option SS := fun ds σ => match ds with
  | d :: ds => (g d σ).bind fun σ1 => r ds σ1
  | [] => none
theorem _root_.L2.PG.imp {X : Cx} {e : Expr} {t t' : TG} (h : PG X e t) (k : ∀ v τ H Q, t' v τ H Q → t v τ H Q) : PG X e t' := ⟨fun p s τ H v u Q I r q => h.run p s τ H v u Q I r (k _ _ _ _ q)⟩
theorem _root_.L2.PGs.imp {X : Cx} {e : List Expr} {t t' : TGs} (h : PGs X e t) (k : ∀ v τ H Q, t' v τ H Q → t v τ H Q) : PGs X e t' := ⟨fun p s τ H v u Q I r q => h.run p s τ H v u Q I r (k _ _ _ _ q)⟩
section
variable {X : Cx} {C : Cn} {pos : Pos}
theorem mg_name (i : Nat) {x : Str} (hN : X.N.Nodup) (hi : X.N[i]? = some x) (hx : Loc X.env.scope x) (hf : X.fn x = true ∨ X.env.scope.names.lookup x = some .local := by first | exact .inl rfl | exact .inr rfl | assumption) : MG X C (.Name x pos) [i] (gN i) := by
  refine ⟨fun E => (pg_name (X := X.wish E) hN hi hx hf).imp fun v τ H Q ⟨d, G, σ, σ', r, sr, e, k⟩ => ?_⟩
  cases e
  exact k _ (sr.setVal r) ⟨by simp, fun j hj => List.getElem?_set_ne (fun z => hj (by rw [z]; exact List.mem_singleton.mpr rfl))⟩
theorem mgs_nil : MGs X C [] [] gZ := by
  refine ⟨fun E => pgs_nil.imp fun xs τ H Q ⟨ds, G, σ, σ', r, sr, e, k⟩ => ?_⟩
  unfold gZ at e
  split at e
  · cases e
    exact ⟨r.nilR, k _ sr .refl⟩
  · cases e
theorem mgs_cons {e : Expr} {es : List Expr} {g : D → SS → Option SS} {r : List D → SS → Option SS} {w1 w2 : List Nat} (h1 : MG X C e w1 g) (h2 : MGs X C es w2 r)
    (hs : (assignEach (e :: es) X.env).map (·.2) = assign e X.env :: (assignEach es X.env).map (·.2) := by rfl) : MGs X C (e :: es) (w1 ++ w2) (gC g r) := by
  refine ⟨fun E => (pgs_cons (h1.pg E) (h2.pgs E) hs).imp fun xs τ H Q ⟨ds, G, σ, σ', rl, sr, e, k⟩ => ?_⟩
  unfold gC at e
  split at e
  · rename_i d ds
    simp only [RpL] at rl
    obtain ⟨v, vs, rfl, r1, r2⟩ := rl
    cases q : g d σ with
    | none => rw [q] at e; cases e
    | some σ1 =>
      rw [q] at e
      exact ⟨v, vs, rfl, d, G, σ, σ1, r1, sr, q, fun τ1 s1 q1 => ⟨ds, G, σ1, σ', r2, s1, e, fun τ' s' q' => k τ' s' ⟨q'.1.trans q1.1, fun j hj => (q'.2 j fun z => hj (List.mem_append_right _ z)).trans (q1.2 j fun z => hj (List.mem_append_left _ z))⟩⟩⟩
  · cases e
theorem mg_tup {es : List Expr} {kk : Nat} {g : List D → SS → Option SS} {n : Nat} {ws : List Nat} (hK : X.K = C.K) (hc : X.calm = true) (h : MGs X C es ws g) (hl : ∀ ds σ σ', g ds σ = some σ' → ds.length = n)
    (hn : (assignEach es X.env).length = n := by rfl) (hst : (assignEach es X.env).findIdx? (·.1) = none := by rfl) : MG X C (.Tuple es kk pos) ws (gT g) := by
  refine ⟨fun E => (pg_tup (X := X.wish E) hc (h.pgs E) hn hst).imp fun v τ H Q ⟨d, G, σ, σ', r, sr, e, k⟩ => ?_⟩
  unfold gT at e
  split at e
  · obtain ⟨a, vs, rfl, s1, r1⟩ := r.rb.tup
    exact ⟨a, vs, rfl, by rw [show (X.wish E).K = C.K from hK]; exact s1, by rw [r1.length]; exact hl _ _ _ e, _, G, σ, σ', r1, sr, e, k⟩
  · cases e
theorem gZ_len {ds : List D} {σ σ' : SS} (h : gZ ds σ = some σ') : ds.length = 0 := by
  unfold gZ at h
  split at h
  · rfl
  · cases h
theorem gC_len {g : D → SS → Option SS} {r : List D → SS → Option SS} {n : Nat} (h : ∀ ds σ σ', r ds σ = some σ' → ds.length = n) : ∀ ds σ σ', gC g r ds σ = some σ' → ds.length = n + 1 := fun ds σ σ' e => by
  unfold gC at e
  split at e
  · rename_i d ds
    cases q : g d σ with
    | none => rw [q] at e; cases e
    | some σ1 => rw [q] at e; simp [h _ _ _ e]
  · cases e
/-- target = e -/
def sAsg (g : D → SS → Option SS) (m : SS → O D) : SS → OS := fun σ => (m σ).bindS fun d σ1 => match g d σ1 with
  | some σ2 => .nx σ2
  | none => .bad
theorem ms_asg {tg e : Expr} {g : D → SS → Option SS} {m : SS → O D} {ws : List Nat} (h : ME X C e m) (hg : MG X C tg ws g) (hs : swapsWithSole [tg] e pos.line X.env = pure false := by rfl) (hw : swappedStores [tg] e X.env = pure none := by rfl)
    (h1 : (assignEach [tg] X.env).map (·.2) = [assign tg X.env] := by rfl) : MS X C (.Assign [tg] e pos) (sAsg g m) := by
  refine ⟨fun E W tk pw => (ps_asg (h.pe E W tk) (hg.pg E) hs hw h1).imp fun D' τ H q => ?_⟩
  refine (tSt_bind (R := fun _ => Rp C) q).mono fun x H1 ⟨d, r, f, G, σ, sr, p⟩ => ?_
  dsimp only at p
  cases q : g d σ with
  | none => rw [q] at p; exact p.elim
  | some σ2 => rw [q] at p; exact ⟨d, G, σ, σ2, r, sr, q, fun τ' s' _ => p τ' H1 s' (.refl _)⟩
end

/-! ### what is walked -/
def ItOk (C : Cn) (J : It) (H1 : Hp) (ds : List D) : Prop :=
  (∀ i H, Fx H1 H → i < ds.length → J.go i H) ∧ (∀ i H x H', Fx H1 H → i < ds.length → J.yld i H x H' → Same H H' ∧ ∃ d, ds[i]? = some d ∧ Rp C H' d x) ∧ ∀ H, Fx H1 H → J.stop ds.length H
def tIt (C : Cn) (W : WX) (m : SS → O (List D)) : TI := tG (fun _ H ds J => ItOk C J H ds) C W m
structure MI (X : Cx) (C : Cn) (tg iter : Expr) (m : SS → O (List D)) : Prop where
  pi : ∀ E W, Takes (X.wish E) W → PI (X.wish E) tg iter (tIt C W m)
theorem _root_.L2.PI.imp {X : Cx} {tg iter : Expr} {t t' : TI} (h : PI X tg iter t) (k : ∀ τ H R, t' τ H R → t τ H R) : PI X tg iter t' := ⟨fun p s τ H R I q => h.run p s τ H R I (k _ _ _ q)⟩
section
variable {X : Cx} {C : Cn} {pos p1 : Pos} {tg e : Expr}
/-- a list, a tuple that stands -/
def sItL (m : SS → O D) : SS → O (List D) := fun σ => (m σ).bind fun d σ1 => match d with
  | .lst ds => .ok ds σ1
  | _ => .bad
def sItT (m : SS → O D) : SS → O (List D) := fun σ => (m σ).bind fun d σ1 => match d with
  | .tup ds => .ok ds σ1
  | _ => .bad
def sItS (m : SS → O D) : SS → O (List D) := fun σ => (m σ).bind fun d σ1 => match d with
  | .str x => .ok (x.cps.toList.map fun c => .str ⟨#[c]⟩) σ1
  | _ => .bad
theorem lst_stands {K : PySem.W.Frag} {H1 H : Hp} {a : Addr} {vs : List V} (s : (∃ o, H1 a = some (.frz o (.lst vs))) ∨ ∃ (o : Obj) (its : Array Value) (n : Nat), K.lookup a = some o ∧ o.cls = .type "list" ∧ o.dict = none ∧ o.data = .seq its n ∧ its.size ≤ sizeLine ∧ Vals vs its.toList) (f : Fx H1 H) : SqL K H a vs := by
  rcases s with ⟨o, s⟩ | s
  · exact .inl (.inr ⟨o, f.1 _ _ s rfl⟩)
  · exact .inr s
theorem itok_list {H1 : Hp} {a : Addr} {vs : List V} {ds : List D} (s : ∀ H, Fx H1 H → SqL C.K H a vs) (r : RpL C H1 ds vs) : ItOk C (Itl C.K a) H1 ds := by
  refine ⟨fun i H f hi => ?_, fun i H x H' f hi y => ?_, fun H f => ⟨vs, s H f, by rw [r.length]; exact Nat.le_refl _⟩⟩
  · obtain ⟨v, e, _⟩ := r.get (List.getElem?_eq_getElem hi)
    exact ⟨vs, v, s H f, e⟩
  · obtain ⟨e1, e2⟩ := y
    subst e1
    refine ⟨.refl _, _, List.getElem?_eq_getElem hi, ?_⟩
    obtain ⟨v, e, r1⟩ := (r.fx f).get (List.getElem?_eq_getElem hi)
    rw [e2 vs (s _ f)] at e; cases e
    exact r1
theorem itok_tup {H1 : Hp} {a : Addr} {vs : List V} {ds : List D} (s : ∀ H, Fx H1 H → SqT C.K H a vs) (r : RpL C H1 ds vs) : ItOk C (Itt C.K a) H1 ds := by
  refine ⟨fun i H f hi => ?_, fun i H x H' f hi y => ?_, fun H f => ⟨vs, s H f, by rw [r.length]; exact Nat.le_refl _⟩⟩
  · obtain ⟨v, e, _⟩ := r.get (List.getElem?_eq_getElem hi)
    exact ⟨vs, v, s H f, e⟩
  · obtain ⟨e1, e2⟩ := y
    subst e1
    refine ⟨.refl _, _, List.getElem?_eq_getElem hi, ?_⟩
    obtain ⟨v, e, r1⟩ := (r.fx f).get (List.getElem?_eq_getElem hi)
    rw [e2 vs (s _ f)] at e; cases e
    exact r1
theorem mi_list {m : SS → O D} (hK : X.K = C.K) (h : ME X C e m) : MI X C tg e (sItL m) := by
  refine ⟨fun E W tk => (pi_list (h.pe E W tk)).imp fun τ H R q => ?_⟩
  rw [show (X.wish E).K = C.K from hK]
  refine (tG_bind (R := fun _ => Rp C) q).mono fun x H1 ⟨d, r1, f1, G, σ, sr, p⟩ => ?_
  dsimp only at p
  split at p
  · rename_i ds
    simp only [Rp] at r1
    obtain ⟨a, vs, rfl, s, r⟩ := r1
    exact ⟨a, rfl, ⟨vs, lst_stands s (.refl _)⟩, p _ H1 (itok_list (fun H f => lst_stands s f) r) sr (.refl _)⟩
  · exact p.elim
theorem mi_tup {m : SS → O D} (hK : X.K = C.K) (h : ME X C e m) : MI X C tg e (sItT m) := by
  refine ⟨fun E W tk => (pi_tup (h.pe E W tk)).imp fun τ H R q => ?_⟩
  rw [show (X.wish E).K = C.K from hK]
  refine (tG_bind (R := fun _ => Rp C) q).mono fun x H1 ⟨d, r1, f1, G, σ, sr, p⟩ => ?_
  dsimp only at p
  split at p
  · rename_i ds
    simp only [Rp] at r1
    obtain ⟨a, vs, rfl, s, r⟩ := r1
    exact ⟨a, rfl, ⟨vs, s⟩, p _ H1 (itok_tup (fun H f => TL.SqT.fx f s) r) sr (.refl _)⟩
  · exact p.elim
theorem mi_str {m : SS → O D} (h : ME X C e m) : MI X C tg e (sItS m) := by
  refine ⟨fun E W tk => (pi_str (h.pe E W tk)).imp fun τ H R q => ?_⟩
  refine (tG_bind (R := fun _ => Rp C) q).mono fun x H1 ⟨d, r1, f1, G, σ, sr, p⟩ => ?_
  dsimp only at p
  split at p
  · rename_i y
    refine ⟨y, r1.rb.str, p _ H1 ⟨fun i H f hi => ?_, fun i H v H' f hi q => ?_, fun H f => ?_⟩ sr (.refl _)⟩
    · show i < y.cps.size
      simpa using hi
    · obtain ⟨e1, c, e2, e3⟩ := q
      subst e1
      have e2 : y.cps[i]? = some c := e2
      refine ⟨.refl _, .str ⟨#[c]⟩, ?_, by subst e3; exact .s⟩
      rw [List.getElem?_map, Array.getElem?_toList, e2]; rfl
    · show y.cps.size ≤ _
      simp
  · exact p.elim
/-- range(b), range(a, b) of small ints -/
def R62 (i : Int) : Bool := decide (-4611686018427387904 ≤ i) && decide (i < 4611686018427387904)
theorem R62_iff {i : Int} (h : R62 i = true) : -(2 ^ 62) ≤ i ∧ i < 2 ^ 62 := by
  simp only [R62, Bool.and_eq_true, decide_eq_true_eq] at h
  omega
def upTo (lo : Int) (n : Nat) : List D := (List.range n).map fun i : Nat => .int (lo + (i : Int))
def sRng1 (m : SS → O D) : SS → O (List D) := fun σ => (m σ).bind fun d σ1 => match d with
  | .int j => if R62 j then .ok (upTo 0 j.toNat) σ1 else .bad
  | _ => .bad
def sRng2 (m n : SS → O D) : SS → O (List D) := fun σ => (m σ).bind fun d σ1 => (n σ1).bind fun d2 σ2 => match d, d2 with
  | .int i, .int j => if R62 i && R62 j then .ok (upTo i (j - i).toNat) σ2 else .bad
  | _, _ => .bad
theorem itok_range {H1 : Hp} {lo : Int} {n : Nat} : ItOk C (Itr lo n) H1 (upTo lo n) := by
  have hl : (upTo lo n).length = n := by simp [upTo]
  refine ⟨fun i H f hi => by rw [hl] at hi; exact hi, fun i H x H' f hi y => ?_, fun H f => by rw [hl]; exact Nat.le_refl _⟩
  obtain ⟨e1, e2⟩ := y
  subst e1 e2
  rw [hl] at hi
  refine ⟨.refl _, .int (lo + i), ?_, .i⟩
  unfold upTo
  rw [List.getElem?_map, List.getElem?_range hi]; rfl
theorem mi_range1 {a : Expr} {m : SS → O D} (hg : Gl X "range") (hm : X.mg "range" = none) (h : ME X C a m) (hs : starEach [a] X.env = [(false, eval a X.env)] := by rfl) : MI X C tg (.Call (.Name "range" p1) [a] [] pos) (sRng1 m) := by
  refine ⟨fun E W tk => (pi_range1 (X := X.wish E) hg hm (pa_cons (h.pe E W tk) pa_nil hs) hs).imp fun τ H R q => ?_⟩
  refine (tG_bind (R := fun _ => Rp C) q).mono fun x H1 ⟨d, r1, f1, G, σ, sr, p⟩ => ?_
  dsimp only at p
  split at p
  · rename_i j
    split at p
    · rename_i hj
      obtain ⟨h1, h2⟩ := R62_iff hj
      have := r1.rb.int; subst this
      exact ⟨j, rfl, h1, h2, p _ H1 itok_range sr (.refl _)⟩
    · exact p.elim
  · exact p.elim
theorem mi_range2 {a b : Expr} {m n : SS → O D} (hg : Gl X "range") (hm : X.mg "range" = none) (h : ME X C a m) (g : ME X C b n) (hs : starEach [a, b] X.env = [(false, eval a X.env), (false, eval b X.env)] := by rfl) (hs2 : starEach [b] X.env = [(false, eval b X.env)] := by rfl) :
    MI X C tg (.Call (.Name "range" p1) [a, b] [] pos) (sRng2 m n) := by
  refine ⟨fun E W tk => (pi_range2 (X := X.wish E) hg hm (pa_cons (h.pe E W tk) (pa_cons (g.pe E W tk) pa_nil hs2) (by rw [hs2]; exact hs)) hs hs2).imp fun τ H R q => ?_⟩
  refine (tG_bind (R := fun _ => Rp C) q).mono fun x H1 ⟨d, r1, f1, q1⟩ => ?_
  refine (tG_bind (R := fun _ => Rp C) q1).mono fun y H2 ⟨d2, r2, f2, G, σ, sr, p⟩ => ?_
  cases d with
  | int i =>
    cases d2 with
    | int j =>
      dsimp only at p
      split at p
      · rename_i hj
        rw [Bool.and_eq_true] at hj
        obtain ⟨h1, h2⟩ := R62_iff hj.1
        obtain ⟨h3, h4⟩ := R62_iff hj.2
        have := r1.rb.int; subst this
        have := r2.rb.int; subst this
        exact ⟨i, j, rfl, ⟨h1, h2, h3, h4⟩, p _ H2 itok_range sr (.refl _)⟩
      · exact p.elim
    | _ => exact p.elim
  | _ => exact p.elim
/-- enumerate of a list -/
def num (ds : List D) : List D := ds.mapIdx fun i d => .tup [.int (i : Nat), d]
def sEnum (m : SS → O D) : SS → O (List D) := fun σ => (m σ).bind fun d σ1 => match d with
  | .lst ds => .ok (num ds) σ1
  | _ => .bad
theorem itok_enum {H1 : Hp} {a : Addr} {vs : List V} {ds : List D} (s : ∀ H, Fx H1 H → SqL C.K H a vs) (r : RpL C H1 ds vs) : ItOk C (Ite C.K a) H1 (num ds) := by
  have hl : (num ds).length = ds.length := by simp [num]
  refine ⟨fun i H f hi => ?_, fun i H x H' f hi y => ?_, fun H f => ⟨vs, s H f, by rw [hl, r.length]; exact Nat.le_refl _⟩⟩
  · rw [hl] at hi
    obtain ⟨v, e, _⟩ := r.get (List.getElem?_eq_getElem hi)
    exact ⟨vs, v, s H f, e⟩
  · rw [hl] at hi
    obtain ⟨T, z, e1, e2, e3, e4⟩ := y
    subst e1 e3
    have sm : Same H (upd H T (.tup [.int (i : Nat), z])) := same_new e2
    obtain ⟨v, e, r1⟩ := (r.fx f).get (List.getElem?_eq_getElem hi)
    rw [e4 vs (s _ f)] at e; cases e
    refine ⟨sm, .tup [.int (i : Nat), ds[i]], ?_, rp_tup (SqT.of upd_same) (.cons .i (.cons (r1.fx (.of_same sm)) .nil))⟩
    unfold num
    rw [List.getElem?_mapIdx, List.getElem?_eq_getElem hi]; rfl
theorem mi_enum {elts : List Expr} {kk : Nat} {tpos : Pos} {a : Expr} {m : SS → O D} (hK : X.K = C.K) (hg : Gl X "enumerate") (hm : X.mg "enumerate" = none) (h : ME X C a m) (hs : starEach [a] X.env = [(false, eval a X.env)] := by rfl) :
    MI X C (.Tuple elts kk tpos) (.Call (.Name "enumerate" p1) [a] [] pos) (sEnum m) := by
  refine ⟨fun E W tk => (pi_enum (X := X.wish E) hg hm (pa_cons (h.pe E W tk) pa_nil hs) hs).imp fun τ H R q => ?_⟩
  rw [show (X.wish E).K = C.K from hK]
  refine (tG_bind (R := fun _ => Rp C) q).mono fun x H1 ⟨d, r1, f1, G, σ, sr, p⟩ => ?_
  dsimp only at p
  split at p
  · rename_i ds
    simp only [Rp] at r1
    obtain ⟨b, vs, rfl, s, r⟩ := r1
    exact ⟨b, vs, rfl, lst_stands s (.refl _), p _ H1 (itok_enum (fun H f => lst_stands s f) r) sr (.refl _)⟩
  · exact p.elim
end

/-! ### for, while -/
def sForL (g : D → SS → Option SS) (b : SS → OS) : List D → SS → OS
  | [], σ => .nx σ
  | d :: ds, σ => match g d σ with
    | some σ1 => match b σ1 with
      | .nx σ2 => sForL g b ds σ2
      | .ct σ2 => sForL g b ds σ2
      | .bk σ2 => .nx σ2
      | o => o
    | none => .bad
def sFor (m : SS → O (List D)) (g : D → SS → Option SS) (b : SS → OS) : SS → OS := fun σ => (m σ).bindS fun ds σ1 => sForL g b ds σ1
def sWhile (c : SS → O Bool) (b : SS → OS) : Nat → SS → OS
  | 0, _ => .bad
  | n + 1, σ => (c σ).bindS fun k σ1 => if k = true then match b σ1 with
    | .nx σ2 => sWhile c b n σ2
    | .ct σ2 => sWhile c b n σ2
    | .bk σ2 => .nx σ2
    | o => o else .nx σ1
section
variable {X : Cx} {C : Cn} {pos : Pos}
theorem ms_for {tg iter : Expr} {body : List Stmt} {m : SS → O (List D)} {g : D → SS → Option SS} {b : SS → OS} {ws : List Nat} (hc : X.calm = true) (hi : MI X C tg iter m) (hg : MG X C tg ws g) (hb : MSs X C body b)
    (hs : ∀ x, foldedSetIterable iter X.env x = pure x := by intro _; rfl) : MS X C (.For tg iter body [] pos) (sFor m g b) := by
  refine ⟨fun E W tk pw => (ps_for (X := X.wish E) pw hc (hi.pi E W tk) (hg.pg E) (hb.ps E W tk pw) hs).imp fun D' τ H q => ?_⟩
  refine (tSt_bind (R := fun _ H ds J => ItOk C J H ds) q).mono fun J H1 ⟨ds, jo, f1, G, σ, sr, p⟩ => ?_
  refine ⟨fun i k τ H => k = ds.length - i ∧ i ≤ ds.length ∧ ∃ σ, SR C G H σ τ ∧ Fx H1 H ∧ PostS C W G τ H (sForL g b (ds.drop i) σ) D', ⟨ds.length, by simp, Nat.zero_le _, σ, sr, .refl _, by simpa using p⟩, ?_⟩
  rintro i k τ2 H2 ⟨rfl, hi, σ2, s2, f2, p2⟩
  by_cases hlt : i < ds.length
  · refine .inr ⟨jo.1 i H2 f2 hlt, fun τ' H' => ∃ σ', SR C G H' σ' τ' ∧ Fx H1 H' ∧ PostS C W G τ' H' (sForL g b (ds.drop (i + 1)) σ') D', fun τ' H' n => ⟨ds.length - (i + 1), by omega, rfl, hlt, n⟩, fun x H3 y => ?_⟩
    obtain ⟨sm, d, e, rd⟩ := jo.2.1 i H2 x H3 f2 hlt y
    have ed : ds.drop i = d :: ds.drop (i + 1) := by
      rw [List.drop_eq_getElem_cons hlt]
      rw [List.getElem?_eq_getElem hlt] at e
      cases e; rfl
    rw [ed] at p2
    have p2 : PostS C W G τ2 H2 (match g d σ2 with
      | some σ1 => match b σ1 with
        | .nx σ2 => sForL g b (ds.drop (i + 1)) σ2
        | .ct σ2 => sForL g b (ds.drop (i + 1)) σ2
        | .bk σ2 => .nx σ2
        | o => o
      | none => .bad) D' := p2
    have s3 := s2.same sm
    cases eg : g d σ2 with
    | none => rw [eg] at p2; exact p2.elim
    | some σ3 =>
      rw [eg] at p2
      dsimp only at p2
      refine ⟨d, G, σ2, σ3, rd, s3, eg, fun τ3 s4 _ => ⟨G, σ3, s4, ?_⟩⟩
      have f3 : Fx H1 H3 := f2.trans (.of_same sm)
      have p3 := p2.fx (τ' := τ3) (.of_same sm)
      cases eb : b σ3 with
      | bad => rw [eb] at p3; exact p3
      | nx σ4 => rw [eb] at p3; exact fun τ4 H4 q1 q2 => ⟨σ4, q1, f3.trans q2, p3.fx q2⟩
      | ct σ4 => rw [eb] at p3; exact fun τ4 H4 q1 q2 => ⟨σ4, q1, f3.trans q2, p3.fx q2⟩
      | bk σ4 => rw [eb] at p3; exact fun τ4 H4 q1 q2 => p3 τ4 H4 q1 q2
      | rt v σ4 => rw [eb] at p3; exact p3
      | rtm v σ4 => rw [eb] at p3; exact p3
      | ex x σ4 => rw [eb] at p3; exact p3
  · have e : i = ds.length := by omega
    subst e
    rw [List.drop_length] at p2
    exact .inl ⟨jo.2.2 H2 f2, p2 τ2 H2 s2 (.refl _)⟩
theorem ms_while {c : Expr} {body : List Stmt} {mc : SS → O Bool} {b : SS → OS} (n : Nat) (hc : MT X C c mc) (hb : MSs X C body b) : MS X C (.While c body [] pos) (sWhile mc b n) := by
  refine ⟨fun E W tk pw => (ps_while (X := X.wish E) pw (hc.pt E W tk) (hb.ps E W tk pw)).imp fun D' τ H ⟨G, σ, sr, p⟩ => ?_⟩
  refine ⟨fun k τ' H' => ∃ σ', SR C G H' σ' τ' ∧ PostS C W G τ' H' (sWhile mc b k σ') D', ⟨n, σ, sr, p⟩, ?_⟩
  rintro k τ1 H1 ⟨σ1, s1, p1⟩
  cases k with
  | zero => exact p1.elim
  | succ k =>
    have q : tSt C W (sWhile mc b (k + 1)) D' τ1 H1 := ⟨G, σ1, s1, p1⟩
    refine ⟨G, σ1, s1, ?_⟩
    have p1 : PostS C W G τ1 H1 ((mc σ1).bindS fun k' σ1 => if k' = true then match b σ1 with
      | .nx σ2 => sWhile mc b k σ2
      | .ct σ2 => sWhile mc b k σ2
      | .bk σ2 => .nx σ2
      | o => o else .nx σ1) D' := p1
    cases e : mc σ1 with
    | bad => rw [e] at p1; exact p1
    | ex x σ' => rw [e] at p1; exact fun cls d H' a b c => p1 cls d τ1 H' a b c
    | ok k' σ2 =>
      rw [e] at p1
      intro v H2 ev s2 f2
      subst ev
      cases v with
      | false => exact iteF (p1 τ1 H2 s2 f2)
      | true =>
        have p2 : PostS C W G τ1 H1 (match b σ2 with
          | .nx σ2 => sWhile mc b k σ2
          | .ct σ2 => sWhile mc b k σ2
          | .bk σ2 => .nx σ2
          | o => o) D' := p1
        refine iteT ⟨fun τ' H' => ∃ σ', SR C G H' σ' τ' ∧ PostS C W G τ' H' (sWhile mc b k σ') D', fun τ' H' nn => ⟨k, Nat.lt_succ_self k, nn⟩, G, σ2, s2, ?_⟩
        have p3 := p2.fx (τ' := τ1) f2
        cases eb : b σ2 with
        | bad => rw [eb] at p3; exact p3
        | nx σ4 => rw [eb] at p3; exact fun τ4 H4 q1 q2 => ⟨σ4, q1, p3.fx q2⟩
        | ct σ4 => rw [eb] at p3; exact fun τ4 H4 q1 q2 => ⟨σ4, q1, p3.fx q2⟩
        | bk σ4 => rw [eb] at p3; exact p3
        | rt v σ4 => rw [eb] at p3; exact p3
        | rtm v σ4 => rw [eb] at p3; exact p3
        | ex x σ4 => rw [eb] at p3; exact p3
end
end TL

set_option Elab.async false
set_option linter.all false
set_option maxRecDepth 100000
set_option maxHeartbeats 4000000
/-! TL9: things that change: lists, dicts; new things handed back; calls of built-in functions. -/
namespace TL
open PySem PySem.Spec PyProof.Rows L2

/-! ### a new thing -/
def PostC (C : Cn) (W : WX) (τ : L2.St) (G : Gh) (H : Hp) (o : O MO) (Q : VK) : Prop := match o with
  | .bad => False
  | .ok m σ' => ∀ a u H', H' a = some u → RM C H' m a → G.hp a = none → SR C ⟨upd G.hp a u, G.at_⟩ H' σ' τ → Fx H H' → Q (.ref a) H'
  | .ex x σ' => ∀ cls d H', RX C H' x cls d → SR C G H' σ' τ → Fx H H' → W cls d τ H'
def tC' (C : Cn) (W : WX) (m : SS → O MO) : TE := fun τ H Q => ∃ G σ, SR C G H σ τ ∧ PostC C W τ G H (m σ) Q
structure MC (X : Cx) (C : Cn) (e : Expr) (m : SS → O MO) : Prop where
  pe : ∀ E W, Takes (X.wish E) W → PE (X.wish E) e (tC' C W m)
theorem tC_bind {β γ : Type} {R : L2.St → Hp → β → γ → Prop} {C : Cn} {W : WX} {m : SS → O β} {f : β → SS → O MO} {τ : L2.St} {H : Hp} {Q : VK} (h : tC' C W (fun σ => (m σ).bind f) τ H Q) :
    tG R C W m τ H fun x H1 => ∃ b, R τ H1 b x ∧ Fx H H1 ∧ tC' C W (f b) τ H1 Q := by
  obtain ⟨G, σ, r, p⟩ := h
  have p : PostC C W τ G H ((m σ).bind f) Q := p
  refine ⟨G, σ, r, ?_⟩
  cases e : m σ with
  | bad => rw [e] at p; exact p
  | ok b σ' =>
    rw [e] at p
    have p : PostC C W τ G H (f b σ') Q := p
    show ∀ v H', R τ H' b v → SR C G H' σ' τ → Fx H H' → _
    intro v H' a b1 c
    refine ⟨b, a, c, G, σ', b1, ?_⟩
    cases e2 : f b σ' with
    | bad => rw [e2] at p; exact p
    | ok b2 σ2 => rw [e2] at p; exact fun a2 o2 H2 h1 h2 h3 h4 c2 => p a2 o2 H2 h1 h2 h3 h4 (c.trans c2)
    | ex x2 σ2 => rw [e2] at p; exact fun cl d H2 a2 b2 c2 => p cl d H2 a2 b2 (c.trans c2)
  | ex x σ' => rw [e] at p; exact p
/-- more is to stay: a thing that is in no slot -/
theorem SR.addG2 {C : Cn} {G : Gh} {H : Hp} {σ : SS} {τ : L2.St} {p : Addr} {o : HO} (h : SR C G H σ τ) (hp : H p = some o) (no : notTbl o = true) (hn : ∀ (i : Nat) (sd : SD) (v : V) (F : List Addr), σ[i]? = some (some sd) → τ[i]? = some (some v) → RSD C G H sd v F → p ∉ F) : SR C ⟨upd G.hp p o, G.at_⟩ H σ τ := by
  obtain ⟨l, g, nt, tb, F, h1, h2, h3, h4⟩ := h
  have nF : ∀ i, p ∉ F i := fun i hi => by
    cases e : σ[i]? with
    | none => rw [h4 i fun sd q => by rw [e] at q; cases q] at hi; cases hi
    | some s =>
      cases s with
      | none => rw [h4 i fun sd q => by rw [e] at q; cases q] at hi; cases hi
      | some sd =>
        obtain ⟨v, e1, r⟩ := h1 i sd e
        exact hn i sd v (F i) e e1 r hi
  refine ⟨l, fun a u q => ?_, fun a u q => ?_, tb, F, fun i sd q => ?_, h2, fun i a ha => ?_, h4⟩
  · have q : upd G.hp p o a = some u := q
    by_cases e : a = p
    · subst e
      rw [upd_same] at q; cases q; exact hp
    · rw [upd_ne e] at q; exact g a u q
  · have q : upd G.hp p o a = some u := q
    by_cases e : a = p
    · subst e
      rw [upd_same] at q; cases q; exact no
    · rw [upd_ne e] at q; exact nt a u q
  · obtain ⟨v, e1, r⟩ := h1 i sd q
    exact ⟨v, e1, by cases sd <;> exact r⟩
  · show upd G.hp p o a = none
    rw [upd_ne (show a ≠ p by rintro rfl; exact nF i ha)]
    exact h3 i a ha
/-- what was new ahead of a call is in no slot behind it -/
theorem putBack_apart {C : Cn} {G : Gh} {H H' : Hp} {σ : SS} {τ : L2.St} {p : Addr} {as : List AV} {outs : List SD} (sr : SR C G H σ τ) (hn : ∀ u, H p = some u → notTbl u = false) : ∀ (i : Nat) (sd : SD) (v : V) (F : List Addr), (putBack σ as outs)[i]? = some (some sd) → τ[i]? = some (some v) → RSD C G H' sd v F → p ∉ F := fun i sd v F e ev r hp => by
  rw [putBack_get] at e
  cases q : σ[i]? with
  | none => rw [q] at e; cases e
  | some s =>
    rw [q] at e
    have e : repl (found i as outs) s = some sd := Option.some.inj e
    cases s with
    | none => cases hf : found i as outs with
      | none => rw [hf] at e; cases e
      | some m => rw [hf] at e; cases e
    | some sd0 =>
      obtain ⟨v', F', e1, r1⟩ := sr.at q
      rw [ev] at e1; cases e1
      have shape : (∃ m m', sd0 = .own m ∧ sd = .own m') ∨ (∃ k m m', sd0 = .io k m ∧ sd = .io k m') ∨ ∃ d, sd = .val d := by
        cases hf : found i as outs with
        | none =>
          rw [hf, repl_none] at e; cases e
          cases sd with
          | val d => exact .inr (.inr ⟨d, rfl⟩)
          | own m => exact .inl ⟨m, m, rfl, rfl⟩
          | io k m => exact .inr (.inl ⟨k, m, m, rfl, rfl⟩)
        | some m =>
          rw [hf] at e
          cases sd0 with
          | val d => cases e; exact .inr (.inr ⟨d, rfl⟩)
          | own m0 => cases e; exact .inl ⟨m0, m, rfl, rfl⟩
          | io k m0 => cases e; exact .inr (.inl ⟨k, m0, m, rfl, rfl⟩)
      rcases shape with ⟨m, m', rfl, rfl⟩ | ⟨k, m, m', rfl, rfl⟩ | ⟨d, rfl⟩
      · obtain ⟨a, ea, eF, _⟩ := r
        obtain ⟨a', ea', eF', rm⟩ := r1
        rw [ea] at ea'; cases ea'
        rw [eF, List.mem_singleton] at hp
        obtain ⟨o, z, _⟩ := rm.there
        have z2 := RSD.nt (G := G) (sd := .own m) (v := .ref a) (F := [a]) ⟨a, rfl, rfl, rm⟩ (List.mem_singleton.mpr rfl) z
        rw [hn o (hp ▸ z)] at z2; cases z2
      · obtain ⟨ea, eF, _⟩ := r
        obtain ⟨_, _, rm⟩ := r1
        rw [eF, List.mem_singleton] at hp
        obtain ⟨o, z, _⟩ := rm.there
        have z2 := RSD.nt (G := G) (sd := .own m) (v := .ref (G.at_ k)) (F := [G.at_ k]) ⟨_, rfl, rfl, rm⟩ (List.mem_singleton.mpr rfl) z
        rw [hn o (hp ▸ z)] at z2; cases z2
      · rw [r.2] at hp; cases hp
section
variable {X : Cx} {C : Cn} {pos : Pos} {e : Expr}
/-- x = a new thing -/
def sOwnM (i : Nat) (m : SS → O MO) : SS → OS := fun σ => (m σ).bindS fun o σ1 => .nx (σ1.set i (some (.own o)))
theorem ms_ownM {m : SS → O MO} (i : Nat) {x : Str} {pos' : Pos} (hN : X.N.Nodup) (hi : X.N[i]? = some x) (hx : Loc X.env.scope x) (h : MC X C e m) (hs : swapsWith e (some (.Name x pos')) pos.line X.env = pure false := by rfl)
    (hf : X.fn x = true ∨ X.env.scope.names.lookup x = some .local := by first | exact .inl rfl | exact .inr rfl | assumption) : MS X C (.Assign [.Name x pos'] e pos) (sOwnM i m) := by
  refine ⟨fun E W tk pw => (ps_set (X := X.wish E) hN hi hx (h.pe E W tk) hs hf).imp fun D' τ H ⟨G, σ, r, p⟩ => ⟨G, σ, r, ?_⟩⟩
  have p : PostS C W G τ H ((m σ).bindS fun o σ1 => .nx (σ1.set i (some (.own o)))) D' := p
  cases e : m σ with
  | bad => rw [e] at p; exact p
  | ex x σ' => rw [e] at p; exact fun cls d H' a b c => p cls d τ H' a b c
  | ok o σ' =>
    rw [e] at p
    exact fun a u H' h1 h2 h3 h4 f => p _ H' (h4.setOwn h3 h2) f
def sRetM (m : SS → O MO) : SS → OS := fun σ => (m σ).bindS fun o σ1 => .rtm o σ1
theorem ms_retM {m : SS → O MO} (h : MC X C e m) : MS X C (.Return (some e) pos) (sRetM m) := by
  refine ⟨fun E W tk pw => (ps_ret (h.pe E W tk)).imp fun D' τ H ⟨G, σ, r, p⟩ => ⟨G, σ, r, ?_⟩⟩
  have p : PostS C W G τ H ((m σ).bindS fun o σ1 => .rtm o σ1) D' := p
  cases e : m σ with
  | bad => rw [e] at p; exact p
  | ex x σ' => rw [e] at p; exact fun cls d H' a b c => p cls d τ H' a b c
  | ok o σ' =>
    rw [e] at p
    exact fun a u H' h1 h2 h3 h4 f => p a u τ H' h1 h2 h3 h4 f
/-- a call that hands back a new thing -/
def sCallM (F : FT) (ds : List D) (m : SS → O (List AV)) : SS → O MO := fun σ => (m σ).bind fun as σ1 => if (slots as).Nodup then match argsOf σ1 as with
  | some args => match F (args ++ ds.map SD.val) with
    | .okm o outs => .ok o (putBack σ1 as outs)
    | .ex x outs => .ex x (putBack σ1 as outs)
    | _ => .bad
  | none => .bad else .bad
variable {k : Nat} {f : Addr} {fd : FuncData} {ps : List Str} {F : FT} {dvs : List V} {ds : List Value} {dD : List D} {x : Str} {p : Pos} {es : List Expr}
theorem callM_core {W : WX} {τ : L2.St} {H : Hp} {Q : VK} {m : SS → O (List AV)} (hd : ∀ H, RpL C H dD dvs) (h : tC' C W (sCallM F dD m) τ H Q) : tG (RAVs C) C W m τ H fun xs H1 => spT C F (xs ++ dvs) H1 Q fun cls d H' => W cls d τ H' := by
  refine (tC_bind (R := RAVs C) h).mono fun xs H1 ⟨as, ra, f1, G, σ, sr, p⟩ => ?_
  dsimp only at p
  split at p
  · rename_i nd
    split at p
    · rename_i args ea
      refine ⟨args ++ dD.map SD.val, adrs τ as, args_r sr ra nd ea (hd H1), ?_⟩
      cases e : F (args ++ dD.map SD.val) with
      | bad => rw [e] at p; exact p
      | ok d outs => rw [e] at p; exact p.elim
      | okm o outs =>
        rw [e] at p
        refine fun a u H' ha rm hn rk => p a u H' ha rm ?_ ((sr_back sr ra ea rk).addG2 ha (rm.nt ha) (putBack_apart sr hn)) rk.fx
        cases q : G.hp a with
        | none => rfl
        | some z =>
          have z1 := hn z (sr.gr a z q)
          rw [sr.nt a z q] at z1; cases z1
      | ex x outs => rw [e] at p; exact fun cls dd H' rx rk => p cls dd H' rx (sr_back sr ra ea rk) rk.fx
    · exact p.elim
  · exact p.elim
theorem mc_call {m : SS → O (List AV)} (Fn : FnT X.prog X.w X.K X.mg X.base C k f fd ps F) (hr : TRoom k X.A) (hg : Gl X x) (hm : X.mg x = some (.ref f)) (hk : PySem.W.keepIn X.K (.ref f) = true) (hb : Binds X.K fd ps ds) (hd : Vals dvs ds) (hdd : ∀ H, RpL C H dD dvs)
    (ha : MAV X C (e :: es) m) (hdb : (x == ("__debug__" : Str)) = false := by decide) (he : starEach (e :: es) X.env = (false, eval e X.env) :: starEach es X.env := by rfl) (hpl : (backTo pos (starEach es X.env)).any (·.1) = false := by rfl) :
    MC X C (.Call (.Name x p) (e :: es) [] pos) (sCallM F dD m) := by
  refine ⟨fun E W tk => ⟨fun pins s τ H Q I h => ?_⟩⟩
  refine wpAny_Call_Name_kw (ld_glob I hg hm ?_ hdb)
  refine PySem.W.callWith_K (h₀ := X.base) I.ok.mod.kin hk (thn ((ha.pa E W tk).run pos pins s τ H _ I (callM_core hdd h)) fun us s1 ⟨vs, H1, I1, r, q⟩ => ⟨I1.kIn, ?_⟩) he hpl
  exact run_fnT Fn hr hb hd tk I1 r q
/-- a new list -/
def sLst (m : SS → O (List D)) : SS → O MO := fun σ => (m σ).bind fun ds σ1 => .ok (.lst ds) σ1
theorem mc_lst {m : SS → O (List D)} (h : MF X C e m) : MC X C e (sLst m) := by
  refine ⟨fun E W tk => (h.pe E W tk).imp fun τ H Q ⟨G, σ, sr, p⟩ => ⟨G, σ, sr, ?_⟩⟩
  have p : PostC C W τ G H ((m σ).bind fun ds σ1 => .ok (.lst ds) σ1) Q := p
  cases e : m σ with
  | bad => rw [e] at p; exact p
  | ex x σ' => rw [e] at p; exact p
  | ok ds σ' =>
    rw [e] at p
    exact fun a vs H' h1 h2 h3 h4 f => p a _ H' h1 ⟨vs, h1, h2⟩ h3 h4 f
end

/-! ### dicts -/
def dget : List (Key × D) → Key → Option D
  | [], _ => none
  | p :: r, k => if p.1 = k then some p.2 else dget r k
def dput (kvs : List (Key × D)) (k : Key) (d : D) : List (Key × D) := if (dget kvs k).isSome then kvs.map fun p => if p.1 = k then (p.1, d) else p else kvs ++ [(k, d)]
theorem dget_rp {C : Cn} {H : Hp} {k : Key} : ∀ {kvs : List (Key × D)} {kvV : List (Key × V)}, kvs.map (·.1) = kvV.map (·.1) → RpL C H (kvs.map (·.2)) (kvV.map (·.2)) → (∀ d, dget kvs k = some d → ∃ v, valV kvV k = some v ∧ Rp C H d v) ∧ (dget kvs k = none → valV kvV k = none)
  | [], [], _, _ => ⟨fun _ h => (by cases h), fun _ => rfl⟩
  | [], _ :: _, h, _ => by simp at h
  | _ :: _, [], h, _ => by simp at h
  | p :: r, q :: s, h, hr => by
    simp only [List.map_cons, List.cons.injEq] at h
    simp only [List.map_cons, RpL] at hr
    obtain ⟨v, vs, e, r1, r2⟩ := hr
    have e1 : q.2 = v := (List.cons.inj e).1
    have e2 : s.map (·.2) = vs := (List.cons.inj e).2
    rw [← e2] at r2
    obtain ⟨i1, i2⟩ := dget_rp (k := k) h.2 r2
    refine ⟨fun d hd => ?_, fun hd => ?_⟩
    · unfold dget at hd
      split at hd
      · rename_i hk
        cases hd
        exact ⟨q.2, valV_pos (h.1 ▸ hk), e1 ▸ r1⟩
      · rename_i hk
        obtain ⟨v', f1, f2⟩ := i1 d hd
        exact ⟨v', by rw [valV_neg (h.1 ▸ hk)]; exact f1, f2⟩
    · unfold dget at hd
      split at hd
      · cases hd
      · rename_i hk
        rw [valV_neg (h.1 ▸ hk)]; exact i2 hd
theorem dmap_rp {C : Cn} {H : Hp} {k : Key} {d : D} {v : V} (rd : Rp C H d v) : ∀ {kvs : List (Key × D)} {kvV : List (Key × V)}, kvs.map (·.1) = kvV.map (·.1) → RpL C H (kvs.map (·.2)) (kvV.map (·.2)) →
    (kvs.map fun p => if p.1 = k then (p.1, d) else p).map (·.1) = (kvV.map fun p => if p.1 = k then (p.1, v) else p).map (·.1) ∧ RpL C H ((kvs.map fun p => if p.1 = k then (p.1, d) else p).map (·.2)) ((kvV.map fun p => if p.1 = k then (p.1, v) else p).map (·.2))
  | [], [], _, _ => ⟨rfl, .nil⟩
  | [], _ :: _, h, _ => by simp at h
  | _ :: _, [], h, _ => by simp at h
  | p :: r, q :: s, h, hr => by
    simp only [List.map_cons, List.cons.injEq] at h
    simp only [List.map_cons, RpL] at hr
    obtain ⟨w, vs, e, r1, r2⟩ := hr
    have e1 : q.2 = w := (List.cons.inj e).1
    have e2 : s.map (·.2) = vs := (List.cons.inj e).2
    rw [← e2] at r2
    obtain ⟨i1, i2⟩ := dmap_rp rd (k := k) h.2 r2
    simp only [List.map_cons]
    by_cases hk : p.1 = k
    · have hk2 : q.1 = k := h.1 ▸ hk
      rw [if_pos hk, if_pos hk2]
      exact ⟨by rw [i1, h.1], .cons rd i2⟩
    · have hk2 : ¬ q.1 = k := h.1 ▸ hk
      rw [if_neg hk, if_neg hk2]
      exact ⟨by rw [i1, h.1], .cons (e1 ▸ r1) i2⟩
theorem dput_rp {C : Cn} {H : Hp} {k : Key} {d : D} {v : V} {kvs : List (Key × D)} {kvV : List (Key × V)} (rd : Rp C H d v) (h : kvs.map (·.1) = kvV.map (·.1)) (hr : RpL C H (kvs.map (·.2)) (kvV.map (·.2))) :
    (dput kvs k d).map (·.1) = (putK kvV k v).map (·.1) ∧ RpL C H ((dput kvs k d).map (·.2)) ((putK kvV k v).map (·.2)) := by
  obtain ⟨g1, g2⟩ := dget_rp (k := k) h hr
  unfold dput putK
  rw [valV_any]
  cases e : dget kvs k with
  | some d0 =>
    obtain ⟨v0, e0, _⟩ := g1 d0 e
    rw [e0]
    exact dmap_rp rd h hr
  | none =>
    rw [g2 e]
    show (kvs ++ [(k, d)]).map (·.1) = (kvV ++ [(k, v)]).map (·.1) ∧ RpL C H ((kvs ++ [(k, d)]).map (·.2)) ((kvV ++ [(k, v)]).map (·.2))
    rw [List.map_append, List.map_append, List.map_append, List.map_append, h]
    exact ⟨rfl, hr.append (.cons rd .nil)⟩
def curD (σ : SS) (i : Nat) : Option (List (Key × D)) := match σ[i]? with
  | some (some (.own (.dct kvs))) => some kvs
  | some (some (.io _ (.dct kvs))) => some kvs
  | _ => none
def curL (σ : SS) (i : Nat) : Option (List D) := match σ[i]? with
  | some (some (.own (.lst ds))) => some ds
  | some (some (.io _ (.lst ds))) => some ds
  | _ => none
section
variable {C : Cn} {G : Gh} {H : Hp} {σ : SS} {τ : L2.St} {i : Nat}
/-- the slot's list, and how it is written -/
theorem SR.curL (sr : SR C G H σ τ) {ds : List D} (e : curL σ i = some ds) : ∃ a vs, τ[i]? = some (some (.ref a)) ∧ H a = some (.lst vs) ∧ RpL C H ds vs ∧
    ∀ ds' vs', RpL C H ds' vs' → Fx H (upd H a (.lst vs')) ∧ SR C G (upd H a (.lst vs')) (put1 σ i (.lst ds')) τ := by
  unfold TL.curL at e
  split at e
  · rename_i ds0 q
    cases e
    obtain ⟨v, F, e1, r⟩ := sr.at q
    obtain ⟨a, rfl, eF, vs, ha, rl⟩ := id r
    refine ⟨a, vs, e1, ha, rl, fun ds' vs' rl' => ?_⟩
    have f : Fx H (upd H a (.lst vs')) := Fx.upd ha rfl
    refine ⟨f, ?_⟩
    have : put1 σ i (.lst ds') = σ.set i (some (.own (.lst ds'))) := by unfold put1; rw [q]
    rw [this]
    exact sr.write q e1 r (by rw [eF]; exact List.mem_singleton.mpr rfl) f ⟨a, rfl, eF, vs', upd_same, rl'.fx f⟩ (fun b hb => hb) eF
  · rename_i k ds0 q
    cases e
    obtain ⟨v, F, e1, r⟩ := sr.at q
    obtain ⟨rfl, eF, vs, ha, rl⟩ := id r
    refine ⟨_, vs, e1, ha, rl, fun ds' vs' rl' => ?_⟩
    have f : Fx H (upd H (G.at_ k) (.lst vs')) := Fx.upd ha rfl
    refine ⟨f, ?_⟩
    have : put1 σ i (.lst ds') = σ.set i (some (.io k (.lst ds'))) := by unfold put1; rw [q]
    rw [this]
    exact sr.write q e1 r (by rw [eF]; exact List.mem_singleton.mpr rfl) f ⟨rfl, eF, vs', upd_same, rl'.fx f⟩ (fun b hb => hb) eF
  · cases e
theorem SR.curD (sr : SR C G H σ τ) {kvs : List (Key × D)} (e : curD σ i = some kvs) : ∃ a kvV, τ[i]? = some (some (.ref a)) ∧ H a = some (.dK kvV) ∧ kvs.map (·.1) = kvV.map (·.1) ∧ RpL C H (kvs.map (·.2)) (kvV.map (·.2)) ∧
    ∀ kvs' kvV', kvs'.map (·.1) = kvV'.map (·.1) → RpL C H (kvs'.map (·.2)) (kvV'.map (·.2)) → Fx H (upd H a (.dK kvV')) ∧ SR C G (upd H a (.dK kvV')) (put1 σ i (.dct kvs')) τ := by
  unfold TL.curD at e
  split at e
  · rename_i ds0 q
    cases e
    obtain ⟨v, F, e1, r⟩ := sr.at q
    obtain ⟨a, rfl, eF, vs, ha, rk, rl⟩ := id r
    refine ⟨a, vs, e1, ha, rk, rl, fun ds' vs' rk' rl' => ?_⟩
    have f : Fx H (upd H a (.dK vs')) := Fx.upd ha rfl
    refine ⟨f, ?_⟩
    have : put1 σ i (.dct ds') = σ.set i (some (.own (.dct ds'))) := by unfold put1; rw [q]
    rw [this]
    exact sr.write q e1 r (by rw [eF]; exact List.mem_singleton.mpr rfl) f ⟨a, rfl, eF, vs', upd_same, rk', rl'.fx f⟩ (fun b hb => hb) eF
  · rename_i k ds0 q
    cases e
    obtain ⟨v, F, e1, r⟩ := sr.at q
    obtain ⟨rfl, eF, vs, ha, rk, rl⟩ := id r
    refine ⟨_, vs, e1, ha, rk, rl, fun ds' vs' rk' rl' => ?_⟩
    have f : Fx H (upd H (G.at_ k) (.dK vs')) := Fx.upd ha rfl
    refine ⟨f, ?_⟩
    have : put1 σ i (.dct ds') = σ.set i (some (.io k (.dct ds'))) := by unfold put1; rw [q]
    rw [this]
    exact sr.write q e1 r (by rw [eF]; exact List.mem_singleton.mpr rfl) f ⟨rfl, eF, vs', upd_same, rk', rl'.fx f⟩ (fun b hb => hb) eF
  · cases e
end
def keyOf : D → Option Key
  | .str x => some (.inr x)
  | .int i => some (.inl i)
  | _ => none
theorem keyOf_rp {C : Cn} {H : Hp} {d : D} {v : V} {k : Key} (r : Rp C H d v) (e : keyOf d = some k) : v = kV k := by
  unfold keyOf at e
  split at e
  · cases e; exact r.rb.str
  · cases e; exact r.rb.int
  · cases e
section
variable {X : Cx} {C : Cn} {pos : Pos} {e e2 : Expr} {x : Str} {p1 pos' : Pos}
/-- x[e] of a dict in a slot -/
def sDget (i : Nat) (m : SS → O D) : SS → O D := fun σ => match curD σ i with
  | some _ => (m σ).bind fun d σ1 => match curD σ1 i, keyOf d with
    | some kvs, some k => ofOpt (dget kvs k) σ1
    | _, _ => .bad
  | none => .bad
theorem me_dget {m : SS → O D} (i : Nat) (hN : X.N[i]? = some x) (hv : Vis X.env.scope x) {n : Nat} (hr : TRoom n X.A) (h : ME X C e m) (hs : NoSl e) (hd : (x == ("__debug__" : Str)) = false := by decide) (hcd : (x == ("__classdict__" : Str)) = false := by decide) :
    ME X C (.Subscript (.Name x p1) e pos) (sDget i m) := by
  refine ⟨fun E W tk => (pe_dget (X := X.wish E) (by have := hr.u64; show X.A.units + 1 < cLine; omega) (pv i hN hv hd hcd) (h.pe E W tk) hs).imp fun τ H Q ⟨G, σ, sr, p⟩ => ?_⟩
  unfold sDget at p
  split at p
  · rename_i kvs0 e0
    obtain ⟨a, kvV, ev, _⟩ := sr.curD e0
    refine ⟨_, ev, ?_⟩
    refine (tG_bind (R := fun _ => Rp C) (f := fun d σ1 => match TL.curD σ1 i, keyOf d with
      | some kvs, some k => ofOpt (dget kvs k) σ1
      | _, _ => .bad) ⟨G, σ, sr, p⟩).mono fun y H1 ⟨d, r, f, G1, σ1, s1, p1⟩ => ?_
    dsimp only at p1
    split at p1
    · rename_i kvs k e1 e2
      obtain ⟨a', kv', ev', ha, rk, rl, _⟩ := s1.curD e1
      rw [ev] at ev'; cases ev'
      cases q : dget kvs k with
      | none => rw [q] at p1; exact p1.elim
      | some d2 =>
        rw [q] at p1
        obtain ⟨v, q1, q2⟩ := (dget_rp rk rl).1 d2 q
        refine ⟨a, v, rfl, ?_, p1 v H1 q2 s1 (.refl _)⟩
        rw [keyOf_rp r e2, ← q1]
        exact DGet.k ha
    · exact p1.elim
  · exact p.elim
/-- x[e] = e2 of a dict in a slot -/
def sDput (i : Nat) (mk mv : SS → O D) : SS → OS := fun σ => (mv σ).bindS fun d σ1 => match curD σ1 i with
  | some _ => (mk σ1).bindS fun kd σ2 => match curD σ2 i, keyOf kd with
    | some kvs, some k => if kvs.length < 1000 then .nx (put1 σ2 i (.dct (dput kvs k d))) else .bad
    | _, _ => .bad
  | none => .bad
theorem ms_dput {mk mv : SS → O D} (i : Nat) (hN : X.N[i]? = some x) (hv : Vis X.env.scope x) {n : Nat} (hr : TRoom n X.A) (hk : ME X C e mk) (h2 : ME X C e2 mv) (hs : swapsWith e2 (some (.Subscript (.Name x p1) e pos')) pos.line X.env = pure false := by rfl) (hd : (x == ("__debug__" : Str)) = false := by decide) (hcd : (x == ("__classdict__" : Str)) = false := by decide) :
    MS X C (.Assign [.Subscript (.Name x p1) e pos'] e2 pos) (sDput i mk mv) := by
  refine ⟨fun E W tk pw => (ps_dput (X := X.wish E) (by have := hr.u64; show X.A.units + 1 < cLine; omega) (pv i hN hv hd hcd) (hk.pe E W tk) (h2.pe E W tk) hs).imp fun D' τ H q => ?_⟩
  refine (tSt_bind (R := fun _ => Rp C) q).mono fun v H1 ⟨d, rd, f1, G, σ, sr, p⟩ => ?_
  dsimp only at p
  split at p
  · rename_i kvs0 e0
    obtain ⟨a, kvV, ev, _⟩ := sr.curD e0
    refine ⟨_, ev, ?_⟩
    refine (tSt_bind (R := fun _ => Rp C) (f := fun kd σ2 => match TL.curD σ2 i, keyOf kd with
      | some kvs, some k => if kvs.length < 1000 then .nx (put1 σ2 i (.dct (dput kvs k d))) else .bad
      | _, _ => .bad) ⟨G, σ, sr, p⟩).mono fun y H2 ⟨kd, r, f2, G1, σ1, s1, p1⟩ => ?_
    dsimp only at p1
    split at p1
    · rename_i kvs k e1 e2
      split at p1
      · rename_i hl
        obtain ⟨a', kv', ev', ha, rk, rl, wr⟩ := s1.curD e1
        rw [ev] at ev'; cases ev'
        obtain ⟨w1, w2⟩ := dput_rp (k := k) (rd.fx f2) rk rl
        obtain ⟨f3, s3⟩ := wr _ _ w1 w2
        have hlen : kv'.length = kvs.length := by have := congrArg List.length rk; simpa using this.symm
        refine ⟨a, _, rfl, ?_, p1 τ _ s3 f3⟩
        rw [keyOf_rp r e2]
        exact DPut.k ha (by rw [LIM_eq]; unfold LIM; omega)
      · exact p1.elim
    · exact p1.elim
  · exact p.elim
/-- a display with written text keys -/
structure MD (X : Cx) (C : Cn) (pos : Pos) (keys : List (Option Expr)) (vals : List Expr) (ks : List Key) (m : SS → O (List D)) : Prop where
  pps : ∀ E W, Takes (X.wish E) W → ∃ trs, PPs (X.wish E) pos keys vals trs ∧ ∀ τ H (Q : List (V × V) → Hp → Prop), tA C W m τ H (fun xs H1 => xs.length = ks.length → Q ((ks.map kV).zip xs) H1) → tPairs trs τ H Q
theorem md_nil : MD X C pos [] [] [] sNil := ⟨fun E W tk => ⟨[], pps_nil, fun τ H Q h => tG_ret h [] .nil rfl⟩⟩
theorem md_cons {z : Str} {j : Nat} {pz : Pos} {v : Expr} {keys : List (Option Expr)} {vals : List Expr} {ks : List Key} {a : SS → O D} {m : SS → O (List D)} (hv : ME X C v a) (h : MD X C pos keys vals ks m) :
    MD X C pos (some (.Constant (.str z) j pz) :: keys) (v :: vals) (.inr z :: ks) (sCons a m) := by
  refine ⟨fun E W tk => ?_⟩
  obtain ⟨trs, h1, h2⟩ := h.pps E W tk
  refine ⟨_, pps_cons pe_str (hv.pe E W tk) h1, fun τ H Q q => ?_⟩
  show tE C W a τ H fun y H2 => tPairs trs τ H2 fun ps H3 => Q ((V.str z, y) :: ps) H3
  refine (tG_bind (R := fun _ => Rp C) q).mono fun y H1 ⟨d, r1, f1, q1⟩ => ?_
  refine h2 τ H1 _ ?_
  refine (tG_bind (R := fun _ => RpL C) q1).mono fun ys H2 ⟨ds, r2, f2, q2⟩ => ?_
  intro hl
  exact tG_ret q2 (y :: ys) (.cons (r1.fx f2) r2) (by simp [hl])
def sDict (ks : List Key) (m : SS → O (List D)) : SS → O MO := fun σ => (m σ).bind fun ds σ1 => if ds.length = ks.length then .ok (.dct (ks.zip ds)) σ1 else .bad
theorem zip_maps {α β : Type} : ∀ {xs : List α} {ys : List β}, ys.length = xs.length → (xs.zip ys).map (·.1) = xs ∧ (xs.zip ys).map (·.2) = ys
  | [], [], _ => ⟨rfl, rfl⟩
  | [], _ :: _, h => by simp at h
  | _ :: _, [], h => by simp at h
  | x :: xs, y :: ys, h => by
    obtain ⟨h1, h2⟩ := zip_maps (xs := xs) (ys := ys) (by simpa using h)
    exact ⟨by rw [List.zip_cons_cons, List.map_cons, h1], by rw [List.zip_cons_cons, List.map_cons, h2]⟩
theorem zip_kV : ∀ (ks : List Key) (xs : List V), (ks.map kV).zip xs = (ks.zip xs).map (fun kv => (kV kv.1, kv.2))
  | [], _ => rfl
  | _ :: _, [] => rfl
  | k :: ks, x :: xs => by simp only [List.map_cons, List.zip_cons_cons, zip_kV ks xs]
theorem mergeK_new : ∀ {more kvs : List (Key × V)}, ((kvs ++ more).map (·.1)).Nodup → mergeK kvs more = kvs ++ more
  | [], kvs, _ => by simp [mergeK]
  | p :: r, kvs, nd => by
    have hn : valV kvs p.1 = none := by
      cases q : valV kvs p.1 with
      | none => rfl
      | some v =>
        have hm : p.1 ∈ kvs.map (·.1) := by
          unfold valV at q
          cases q2 : kvs.find? (fun kv => decide (kv.1 = p.1)) with
          | none => rw [q2] at q; cases q
          | some z =>
            have h1 := List.find?_some q2
            have h2 := List.mem_of_find?_eq_some q2
            exact List.mem_map.mpr ⟨z, h2, by simpa using h1⟩
        rw [List.map_append, List.map_cons] at nd
        have := (List.nodup_append.mp nd).2.2 _ hm p.1 List.mem_cons_self
        exact absurd rfl this
    show mergeK (putK kvs p.1 p.2) r = _
    rw [putK_new p.2 hn]
    have e : kvs ++ p :: r = (kvs ++ [(p.1, p.2)]) ++ r := by simp
    rw [e] at nd ⊢
    exact mergeK_new nd
theorem mc_dict {keys : List (Option Expr)} {vals : List Expr} {ks : List Key} {m : SS → O (List D)} (h : MD X C pos keys vals ks m) (nd : ks.Nodup) (hk : ks.length ≤ 15) (hall : keys.all (·.isSome) = true) (hl : keys.length = vals.length) (h0 : keys ≠ []) (h15 : keys.length ≤ 15) : MC X C (.Dict keys vals pos) (sDict ks m) := by
  refine ⟨fun E W tk => ?_⟩
  obtain ⟨trs, h1, h2⟩ := h.pps E W tk
  refine (pe_disp h1 hall hl h0 h15).imp fun τ H Q ⟨G, σ, sr, p⟩ => fun a ha => ?_
  have sm : Same H (upd H a (.dK [])) := same_new ha
  obtain ⟨nG, sr1⟩ := sr.new (o := .dK []) ha
  have p : PostC C W τ G H ((m σ).bind fun ds σ1 => if ds.length = ks.length then .ok (.dct (ks.zip ds)) σ1 else .bad) Q := p
  refine h2 τ _ _ ⟨⟨upd G.hp a (.dK []), G.at_⟩, σ, sr1, ?_⟩
  cases e : m σ with
  | bad => rw [e] at p; exact p
  | ex x σ' => rw [e] at p; exact fun cls d H' q1 q2 q3 => p cls d H' q1 (q2.freeG nG) ((Fx.of_same sm).trans q3)
  | ok ds σ' =>
    rw [e] at p
    have p : PostC C W τ G H (if ds.length = ks.length then .ok (.dct (ks.zip ds)) σ' else .bad) Q := p
    intro xs H2 r2 s2 f2 hx
    split at p
    · rename_i hds
      have hH : H2 a = some (.dK []) := s2.gr a _ upd_same
      obtain ⟨z1, z2⟩ := zip_maps hx
      obtain ⟨y1, y2⟩ := zip_maps hds
      refine ⟨hH, ks.zip xs, ?_, by rw [List.length_zip]; omega, ?_⟩
      · exact zip_kV ks xs
      · have em : mergeK [] (ks.zip xs) = ks.zip xs := mergeK_new (kvs := []) (by rw [List.nil_append, z1]; exact nd)
        rw [em]
        have f3 : Fx H2 (upd H2 a (.dK (ks.zip xs))) := Fx.upd hH rfl
        refine p a _ _ upd_same ⟨_, upd_same, by rw [y1, z1], by rw [y2, z2]; exact r2.fx f3⟩ nG ?_ ((Fx.of_same sm).trans (f2.trans f3))
        exact ((s2.fz (o2 := .dK (ks.zip xs)) nG f3).addG2 upd_same rfl fun i sd v F e1 e2 r hp => by
          obtain ⟨l, g, _, _, F0, k1, k2, k3, k4⟩ := s2
          obtain ⟨v', e3, r3⟩ := k1 i sd e1
          rw [e2] at e3; cases e3
          have hF : F = F0 i := by
            cases sd with
            | val d => rw [r.2, r3.2]
            | own m => obtain ⟨a, e4, e5, _⟩ := r; obtain ⟨a', e4', e5', _⟩ := r3; rw [e4] at e4'; cases e4'; rw [e5, e5']
            | io k m => rw [r.2.1, r3.2.1]
          rw [hF] at hp
          have z : upd G.hp a (.dK []) a = none := k3 i a hp
          rw [upd_same] at z; cases z)
    · exact p.elim
end
end TL

set_option Elab.async false
set_option linter.all false
set_option maxRecDepth 100000
set_option maxHeartbeats 4000000
/-! TL10: exception classes: Base.__init__(self, text), self.field = value; made, raised. -/
namespace TL
section Made
open PySem PySem.W PySem.Calls PyProof.Rows PySem.HandSPX PySem.Builtin PySem.Builtin.ObjectAttr
/-- own classes ahead, then the built-in ones tl -/
def refsT (tl : List Value) : List Value → Bool
  | .ref a :: r => refsT tl r
  | l => l == tl
theorem refsT_cases {tl : List Value} : ∀ l : List Value, refsT tl l = true → (∃ c r, l = .ref c :: r ∧ refsT tl r = true) ∨ l = tl
  | l, e => by
    unfold refsT at e
    split at e
    · exact .inl ⟨_, _, rfl, e⟩
    · exact .inr (eq_of_beq e)
/-- what a built-in base gives -/
structure BaseK (B newId initId : String) (tl : List Value) : Prop where
  bf : ExcBaseFacts B newId initId tl
  pass : ∀ self, refuseLoop self "__setattr__" tl = pure ()
  obj : tl.contains (.type "object") = true
  ne : tl.isEmpty = false
theorem bk_value : BaseK "ValueError" "ValueError.__new__" "ValueError.__init__" [.type "ValueError", .type "Exception", .type "BaseException", .type "object"] := ⟨F.excBase_ValueError, F.store_ValueError.passes, by decide +kernel, rfl⟩
theorem bk_overflow : BaseK "OverflowError" "OverflowError.__new__" "OverflowError.__init__" [.type "OverflowError", .type "ArithmeticError", .type "Exception", .type "BaseException", .type "object"] := ⟨F.excBase_OverflowError, F.store_OverflowError.passes, by decide +kernel, rfl⟩
theorem bk_lookup : BaseK "LookupError" "LookupError.__new__" "LookupError.__init__" [.type "LookupError", .type "Exception", .type "BaseException", .type "object"] := ⟨F.excBase_LookupError, F.store_LookupError.passes, by decide +kernel, rfl⟩
variable {B newId initId : String} {tl : List Value}
theorem BaseK.passes (b : BaseK B newId initId tl) (self : Value) (l : List Value) (h : refsT tl l = true) : refuseLoop self "__setattr__" l = pure () := by
  induction l with
  | nil =>
    rcases refsT_cases [] h with ⟨c, r, q, _⟩ | q
    · cases q
    · rw [q]; exact b.pass self
  | cons a r ih =>
    rcases refsT_cases (a :: r) h with ⟨c, r', q, hr⟩ | q
    · cases q
      rw [refuseLoop_ref]
      exact ih hr
    · rw [q]; exact b.pass self
theorem refsT_has (n : String) (l : List Value) (h : refsT tl l = true) : l.contains (.type n) = tl.contains (.type n) := by
  induction l with
  | nil =>
    rcases refsT_cases [] h with ⟨c, r, q, _⟩ | q
    · cases q
    · rw [q]
  | cons a r ih =>
    rcases refsT_cases (a :: r) h with ⟨c, r', q, hr⟩ | q
    · cases q
      rw [List.contains_cons, ih hr]; rfl
    · rw [q]
theorem BaseK.full (b : BaseK B newId initId tl) {l : List Value} (h : refsT tl l = true) : l.isEmpty = false := by
  cases l with
  | nil =>
    rcases refsT_cases [] h with ⟨c, r, q, _⟩ | q
    · cases q
    · have := b.ne; rw [← q] at this; cases this
  | cons _ _ => rfl
variable {prog : Program} {w : World} {A : Around} {E : Value → Shared → Prop} {R : Result → Shared → Prop} {hp : Heap} {g : Array GenState} {dr : Drawn} {t : Nat} {os : OsState}
/-- the first field of an exception, by object.__setattr__ -/
theorem set_first (bk : BaseK B newId initId tl) {K : W.Frag} {name : Str} {tk : Tok} {v : Value} {x C : Addr} {fv : Array Value} {cd : ClassData}
    (KI : K.In hp) (hx : hp.get? x = some { cls := .ref C, data := .fields fv }) (hcd : W.clsIn K C = some cd) (hm : refsT tl cd.mro = true) (hh : cd.hasDict = true) (ha : W.findIn K (.ref C) name = some none)
    (hq : ∀ h' tk' dx, (∀ b o, b ≠ x → hp.get? b = some o → h'.get? b = some o) → hp.objs.size ≤ dx → dx ≠ x → h'.get? x = some { cls := .ref C, dict := some dx, data := .fields fv } → h'.Ns1 dx (fun y => if y = name then some v else none) → R (.ok (.ret .none)) ⟨h', g, dr, tk', os⟩) :
    codeAny (model prog w) A (.call (.builtin "object.__setattr__") ⟨[.ref x, .str name tk, v], []⟩) R ⟨hp, g, dr, t, os⟩ := by
  have inst : W.InstAt hp x { cls := .ref C, data := .fields fv } C none := ⟨hx, rfl, rfl, trivial⟩
  have so := F.store_object
  have hfull := bk.full hm
  have hobj : cd.mro.contains (.type "object") = true := by rw [refsT_has "object" _ hm]; exact bk.obj
  have apart : x ≠ hp.objs.size := Nat.ne_of_lt (Heap.lt_size hx)
  have isObj : W.Looks (model prog w) hp (isInstance (.ref x) (.type "object")) true := inst.type.andThen (W.looks_mroIn KI (by unfold W.mroIn; rw [hcd, Option.bind_some, if_neg (by rw [hfull]; decide), hobj]))
  have lk1 : W.Looks (model prog w) hp (mroOf (.ref C)) cd.mro := (W.looks_clsIn KI hcd).andThen .now
  have lk2 : W.Looks (model prog w) hp (storeTaker? none) none := .now
  have lk3 : W.Looks (model prog w) hp (classData C) cd := W.looks_clsIn KI hcd
  refine codeAny_call_builtin so.slot.plain so.entry (@W.check_slot (model prog w) _ _ ⟨hp, g, dr, t, os⟩ "object.__setattr__" "object" "__setattr__" (.ref x) [.str name tk, v] [] _ so.kind so.split isObj (so.args (.ref x) (.str name tk) v) ?_)
  rw [W.osa_eq, refuse_eq]
  refine wpAny_bind (wpAny_bind (inst.type.at (wpAny_bind (lk1.at ?_)))); rw [bk.passes _ _ hm]
  refine wpAny_pure (wpAny_bind (inst.type.at (wpAny_bind ((W.looks_findIn KI ha).at (wpAny_bind (lk2.at ?_))))))
  change wpAny _ _ (storeInOwnDict (.ref x) (.ref C) (.str name tk) name v false) _ _ _
  obtain ⟨c1, c2, c3, c4, c5, c6, c7, c8, c9, c10, c11⟩ := cd
  dsimp only at hh; subst hh
  unfold storeInOwnDict ownDictForStores
  repeat (first | (with_reducible refine store_in_new ?_ ?_) | (with_reducible refine wpAny_loadPart_at hx ?_) | (with_reducible refine lk3.at ?_) | wp_step)
  · exact ⟨_, #[], _, (Heap.get?_update_ne _ _ _ _ apart.symm).trans (Heap.get?_push_at rfl rfl), rfl, fun e he => absurd he (by simp), fun _ => rfl⟩
  · intro h' tk' hn' hs
    have hx2 : (hp.push { cls := .type "dict", data := .dict #[] }).get? x = some { cls := .ref C, data := .fields fv } := Heap.get?_push_of_some _ hx
    refine hq h' tk' hp.objs.size (fun b o hb ho => (hs.2 b (Nat.ne_of_lt (Heap.lt_size ho))).trans ((Heap.get?_update_ne _ _ _ _ hb).trans (Heap.get?_push_of_some _ ho))) (Nat.le_refl _) apart.symm ?_ hn'
    exact (hs.2 x apart).trans (Heap.get?_update_self _ hx2 rfl)
end Made

open PySem PySem.Spec PyProof.Rows L2
/-- what the written part says of an exception class at c -/
structure ClsE (K : PySem.W.Frag) (c : Addr) (B newId initId : String) (tl : List Value) : Prop where
  bk : BaseK B newId initId tl
  cls : ∃ nm q N bs bm sn sub ab col dd k0 k1 k2 k3 k5, K.lookup c = some (excClassObj nm q c N bs bm true sn sub ab col dd k0 k1 k2 k3 k5 newId) ∧ refsT tl bm = true
  sa : PySem.W.findIn K (.ref c) "__setattr__" = some (some (.builtin "object.__setattr__"))
  exC : PySem.W.subIn K (.ref c) (.type "BaseException") = some true
  tyC : PySem.W.typeIn K (.ref c) = some (.type "type")
  kC : PySem.W.keepIn K (.ref c) = true
  xf : XfC K c
section
variable {X : Cx} {pins : List (Addr × Obj)} {τ : L2.St} {H : Hp} {s : Shared} {a c dx : Addr} {f : Str} {y : V} {u : Value} {Q : Unit → Shared → Prop} {E : Value → Shared → Prop} {A : Around} {B newId initId : String} {tl : List Value}
theorem st_first (T : ClsE X.K c B newId initId tl) (I : Inv X pins τ H s) (e : H a = some (exo a c none)) (hno : PySem.W.findIn X.K (.ref c) f = some none) (ry : RelV y u)
    (h : ∀ dx s', H dx = none → dx ≠ a → Inv X pins τ (upd (upd H dx (exd dx [(f, y)])) a (exo a c (some dx))) s' → Q () s') : wpAny (model X.prog X.w) A (setAttr (.ref a) f u) Q E s := by
  obtain ⟨nm, q, N, bs, bm, sn, sub, ab, col, dd, k0, k1, k2, k3, k5, hC, hbm⟩ := T.cls
  have hcl : PySem.W.clsIn X.K c = some { name := nm, bases := bs, mro := .ref c :: bm, ns := N, qualname := q, hasDict := true, slotNames := sn, subclasses := sub, abstract := ab, collection := col, hasDel := false } := by unfold PySem.W.clsIn; rw [hC] <;> rfl
  obtain ⟨t1, ho⟩ := exo_at I.hok e
  obtain ⟨hp, g, d, t, os⟩ := s
  refine PySem.W.set_plain I.kIn (ox := { cls := .ref c, dict := none, data := .fields #[.ref t1, .none, .none, .none, .bool false, .none] }) (od := none) ⟨ho, rfl, rfl, trivial⟩ T.sa ?_
  refine set_first T.bk I.kIn ho hcl (show refsT tl (.ref c :: bm) = true from hbm) rfl hno (fun h' tk' dx k dn dne hx hn => ?_)
  have fresh : H dx = none := I.hok.fresh dn
  have ndx : ∀ {b : Addr} {o : Obj}, hp.get? b = some o → b ≠ dx := fun {b o} z => Nat.ne_of_lt (Nat.lt_of_lt_of_le (Heap.lt_size z) dn)
  have nea : ∀ {b : Addr}, H b = none → b ≠ a := fun {b} n z => by rw [z, e] at n; cases n
  have U : Un X.fs [] H (upd (upd H dx (exd dx [(f, y)])) a (exo a c (some dx))) hp h' := by
    refine ⟨fun b o z n _ _ => k b o (nea n) z, fun b o z n _ _ => ⟨o.slots, k b o (nea n) z⟩, fun b o z n _ => ?_, fun b o z _ => ?_, fun b xs z => ?_, fun b o v z => ?_, fun b ps z => ⟨#[], ?_⟩⟩
    · rw [upd_ne (nea n), upd_ne (ndx z)]; exact n
    · by_cases hb : b = a
      · rw [hb]; exact ⟨_, hx⟩
      · exact ⟨o, k b o hb z⟩
    · rw [upd_ne (at_ne e z exo_tup), upd_ne (ne_of_none z fresh)]; exact z
    · rw [upd_ne (at_ne e z exo_frz), upd_ne (ne_of_none z fresh)]; exact z
    · rw [upd_ne (at_ne e z exo_tbl), upd_ne (ne_of_none z fresh), z]; simp
  refine h dx _ fresh dne (I.un (t' := tk') U fun b o z => ?_)
  by_cases hb : b = a
  · subst hb
    rw [upd_same] at z; cases z
    exact exo_ok hx
  · rw [upd_ne hb] at z
    by_cases hd : b = dx
    · subst hd
      rw [upd_same] at z; cases z
      exact exd_ok hn (relO_put (fs := []) ry fun g => True.intro)
    · rw [upd_ne hd] at z
      refine (I.hok b o z).stay (fun c' v hc w => k c' v ?_ w) (fun c' hc => ?_) (fun c' xs hc => ?_)
      · rcases hc with hc | hc
        · rw [hc]; exact hb
        · exact at_ne e hc exo_own
      · rw [upd_ne (at_ne e hc exo_own), upd_ne (ne_of_none hc fresh)]; exact hc
      · rw [upd_ne (at_ne e hc exo_tup), upd_ne (ne_of_none hc fresh)]; exact hc
/-- Base.__init__(self, ..) as the built-in does it -/
theorem init_first {us : List Value} {Q : Value → Shared → Prop} (T : ClsE X.K c B newId initId tl) (I : Inv X pins τ H s) (e : H a = some (exo a c none)) (hl : us.length ≤ sizeLine) (h : ∀ s', Inv X pins τ H s' → Q .none s') :
    wpAny (model X.prog X.w) A (call (.builtin initId) (.ref a :: us)) Q E s := by
  obtain ⟨nm, q, N, bs, bm, sn, sub, ab, col, dd, k0, k1, k2, k3, k5, hC, hbm⟩ := T.cls
  obtain ⟨t1, ho⟩ := exo_at I.hok e
  obtain ⟨hp, g, d, t, os⟩ := s
  refine wpAny_call (PySem.HandSPX.init_base T.bk.bf (fun n => refsT_has n bm hbm) (I.kIn _ _ hC) ho hl fun h' t2 k hx => ?_)
  have J := I.write (t' := t) (x := a) (e := a) (o := exo a c none) (by rw [e]; exact True.intro) (.inl rfl) k ⟨_, hx⟩ (exo_ok hx)
  have same : upd H a (exo a c none) = H := by
    funext b
    by_cases hb : b = a
    · rw [hb, upd_same, e]
    · exact upd_ne hb
  rw [same] at J
  exact h _ J
end
section
variable {X : Cx} {o e : Expr} {es : List Expr} {to te : TE} {ta : TA} {f : Str} {p p' p1 p2 pos : Pos} {B newId initId : String} {tl : List Value}
/-- Base.__init__(self, text) -/
def tInit (K : PySem.W.Frag) (B newId initId : String) (tl : List Value) (ta : TA) : TE := fun σ H Q => ta σ H fun vs H1 => ∃ (a c : Addr) (ws : List V), vs = .ref a :: ws ∧ ws.length ≤ 1000 ∧ ClsE K c B newId initId tl ∧ H1 a = some (exo a c none) ∧ Q .non H1
/-- how the name of the base is read -/
def BaseAt (X : Cx) (x : Str) (pz : Pos) (initId : String) : Prop :=
  ∀ (pins : List (Addr × Obj)) (τ : L2.St) (H : Hp) (s : Shared) (pl : Sem Bool) (E : Value → Shared → Prop) (Q : Value × List Value → Shared → Prop), Inv X pins τ H s → (∀ s', Inv X pins τ H s' → Q (.builtin initId, []) s') →
    wpAny (model X.prog X.w) X.A (eval (.Name x pz) X.env) (fun ov s1 => wpAny (model X.prog X.w) X.A (getMethod ov "__init__" pl) Q E s1) E s
theorem baseAt_own {x : Str} {c : Addr} {mc : Value} (hg : Gl X x) (hm : X.mg x = some (.ref c)) (r : ClX.CRead X.K c mc) (k : PySem.W.findCls X.K (.ref c) mc "__init__" = some (.val (.builtin initId))) (hh : PySem.W.handedIn (.builtin initId) = true := by decide +kernel) (hd : (x == ("__debug__" : Str)) = false := by decide) : BaseAt X x p1 initId := by
  intro pins τ H s pl E Q I h
  refine ld_glob (E := E) I hg hm ?_ hd
  refine PySem.W.method_cls I.kIn r.ga ?_
  exact PySem.W.cls_value I.kIn r.rd k hh (h _ (I.tok _))
theorem baseAt_blt {T : String} {x : Str} (hg : Gl X x) (hm : X.mg x = none) (hv : bootBuiltins x = some (.type T)) (ht : typeOf (.type T) = pure (.type "type")) (hs : Manifest.isStub T = false)
    (k : PySem.W.findCls X.K (.type T) (.type "type") "__init__" = some (.val (.builtin initId))) (hn : x ≠ "__name__" := by decide) (hh : PySem.W.handedIn (.builtin initId) = true := by decide +kernel) (hd : (x == ("__debug__" : Str)) = false := by decide) : BaseAt X x p1 initId := by
  intro pins τ H s pl E Q I h
  refine ld_blt (E := E) I hg hm hv ?_ hn hd
  obtain ⟨m, fr⟩ := I.fr
  exact PySem.W.method_type fr I.ok.mod.kin ht hs k hh (h _ (I.tok _))
theorem pe_binit {pl : Sem Bool} {x : Str} (hB : BaseAt X x p1 initId) (ha : PA X (e :: es) ta)
    (hc : eval (.Call (.Attribute (.Name x p1) "__init__" p2) (e :: es) [] pos) X.env = (do
      let ov ← eval (.Name x p1) X.env
      standAt p2.atName
      let (f, first) ← holding [ov] (getMethod ov "__init__" pl)
      callWith pos f first (backTo pos (starEach (e :: es) X.env)) (backToKw pos (keywordEach [] X.env))) := by rfl)
    (he : starEach (e :: es) X.env = (false, eval e X.env) :: starEach es X.env := by rfl) (hpl : (backTo pos (starEach es X.env)).any (·.1) = false := by rfl) :
    PE X (.Call (.Attribute (.Name x p1) "__init__" p2) (e :: es) [] pos) (tInit X.K B newId initId tl ta) := by
  refine ⟨fun pins s σ H Q I h => ?_⟩
  refine PySem.W.methodCall_KW (hB pins σ H s pl X.xe _ I fun s1 I1 => ?_) hc
  show wpAny _ _ (callWith pos (Value.builtin initId) [] (backTo pos (starEach (e :: es) X.env)) []) _ _ _
  refine PyProof.Rows.callWith_method1 (thn (ha.run pos pins _ σ H _ I1 h) fun us s2 ⟨vs, H1, I2, r1, a, c, ws, ev, hl, T, ea, q⟩ => ?_) he hpl
  subst ev
  cases r1 with
  | @cons _ u0 _ ur ra rw' =>
    obtain rfl : u0 = Value.ref a := ra
    have hlen : ur.length ≤ sizeLine := by rw [← Paired.length rw', sizeLine_eq]; omega
    exact init_first T I2 ea hlen fun s' J => ⟨.non, H1, J, rfl, q⟩
/-- self.f = e, the first field -/
def tFst (K : PySem.W.Frag) (B newId initId : String) (tl : List Value) (f : Str) (to te : TE) : TS := fun D σ H => te σ H fun y H1 => to σ H1 fun x H2 => ∃ a c : Addr, x = .ref a ∧ ClsE K c B newId initId tl ∧ PySem.W.findIn K (.ref c) f = some none ∧
  H2 a = some (exo a c none) ∧ ∀ dx, H2 dx = none → dx ≠ a → D.nx σ (upd (upd H2 dx (exd dx [(f, y)])) a (exo a c (some dx)))
theorem ps_fst (ho : PE X o to) (he : PE X e te) (hs : swapsWith e (some (.Attribute o f p')) pos.line X.env = pure false := by rfl) : PS X (.Assign [.Attribute o f p'] e pos) (tFst X.K B newId initId tl f to te) := by
  refine ⟨fun pins s σ H D I h => ?_⟩
  refine plainObj_wpAny_Assign_Attribute (thn (he.run pins s σ H _ I h) fun v s1 ⟨y, H1, I1, r1, q1⟩ => thn (ho.run pins s1 σ H1 _ I1 q1) fun u s2 ⟨x, H2, I2, r2, a, c, ex, T, hno, ea, q⟩ => ?_) hs
  subst ex
  obtain rfl : u = Value.ref a := r2
  exact st_first T I2 ea hno r1 fun dx s' n ne J => ⟨σ, _, J, q dx n ne⟩
/-- what __init__(self, value) promises -/
def spI (K : PySem.W.Frag) (c : Addr) (f : Str) : Sp := fun vs H Q _ => ∃ (a : Addr) (y : V), vs = [.ref a, y] ∧ H a = some (exo a c none) ∧ ∀ dx, H dx = none → dx ≠ a → Q .non (upd (upd H dx (exd dx [(f, y)])) a (exo a c (some dx)))
/-- C(..): an exception is made -/
def tMkE (c : Addr) (f : Str) (dvs : List V) (ta : TA) : L2.St → Hp → XK → Prop := fun σ H Q => ta σ H fun vs H1 => ∃ y, vs ++ dvs = [y] ∧ ∀ d, H1 d = none → Q (.ref c) (some d) (upd H1 d (.xd [(f, y)]))
end
end TL

set_option Elab.async false
set_option linter.all false
set_option maxRecDepth 100000
set_option maxHeartbeats 4000000
/-! TL11: exceptions made, raised, held as values, caught. -/
namespace TL
open PySem PySem.Spec PyProof.Rows L2
section
variable {X : Cx} {pins : List (Addr × Obj)} {τ : L2.St} {H : Hp} {s : Shared} {c fI : Addr} {f : Str} {B newId initId : String} {tl : List Value} {k : Nat} {fd : FuncData} {ps : List Str} {dvs : List V} {ds : List Value} {es : List Expr} {e : Expr} {x : Str} {p pos : Pos} {ta : TA}
/-- an exception class of the text: the class, its __init__ -/
structure ClsI (X : Cx) (c fI : Addr) (f : Str) (B newId initId : String) (tl : List Value) (fd : FuncData) (ps : List Str) (ds : List Value) (dvs : List V) : Prop where
  T : ClsE X.K c B newId initId tl
  iC : PySem.W.findIn X.K (.ref c) "__init__" = some (some (.ref fI))
  tI : PySem.W.typeIn X.K (.ref fI) = some (.type "function")
  no : PySem.W.findIn X.K (.ref c) f = some none
  fn : FnOk X.prog X.w X.K X.mg X.base CX0 1 fI fd ps (spI X.K c f)
  bs : Binds X.K fd ps ds
  dv : Vals dvs ds
theorem run_exc {us : List Value} {vs : List V} {y : V} {Q : XK} (Z : ClsI X c fI f B newId initId tl fd ps ds dvs) (hr : Room 3 X.A) (I : Inv X pins τ H s) (r : Vals vs us) (hl0 : vs.length ≤ 1000) (hy : vs ++ dvs = [y])
    (q : ∀ d, H d = none → Q (.ref c) (some d) (upd H d (.xd [(f, y)]))) : wpAny (model X.prog X.w) X.A (call (.ref c) us) (MkP X pins τ Q) X.xe s := by
  obtain ⟨nm, qn, N, bs', bm, sn, sub, ab, col, dd, k0, k1, k2, k3, k5, hC, hbm⟩ := Z.T.cls
  obtain ⟨hp, g, dr, tk, os⟩ := s
  have hsz : hp.objs.size ≤ hp.objs.size + 1 := Nat.le_succ _
  have hn : H (hp.objs.size + 1) = none := I.hok.fresh hsz
  have kk : ∀ b o, hp.get? b = some o → ((hp.push (PySem.W.kdv_tup us)).push (PySem.HandSPX.excO c hp.objs.size)).get? b = some o := fun b o z => Heap.get?_push_of_some _ (Heap.get?_push_of_some _ z)
  have hget : ((hp.push (PySem.W.kdv_tup us)).push (PySem.HandSPX.excO c hp.objs.size)).get? (hp.objs.size + 1) = some (PySem.HandSPX.excO c hp.objs.size) := by heap_get
  have I2 : Inv X pins τ (upd H (hp.objs.size + 1) (exo (hp.objs.size + 1) c none)) ⟨(hp.push (PySem.W.kdv_tup us)).push (PySem.HandSPX.excO c hp.objs.size), g, dr, tk, os⟩ :=
    I.laid (t' := tk) (a := hp.objs.size + 1) (o := exo (hp.objs.size + 1) c none) (h' := (hp.push (PySem.W.kdv_tup us)).push (PySem.HandSPX.excO c hp.objs.size)) kk hsz (exo_ok hget)
  have r2 : Vals (V.ref (hp.objs.size + 1) :: (vs ++ dvs)) (Value.ref (hp.objs.size + 1) :: (us ++ ds)) := .cons rfl (r.append Z.dv)
  rw [hy] at r2
  have sp : spI X.K c f [V.ref (hp.objs.size + 1), y] (upd H (hp.objs.size + 1) (exo (hp.objs.size + 1) c none)) (fun v H2 => v = .non ∧ ∃ (d : Addr), H2 (hp.objs.size + 1) = some (exo (hp.objs.size + 1) c (some d)) ∧ H2 d = some (exd d [(f, y)]) ∧ H d = none ∧ Q (.ref c) (some d) (upd (del H2 (hp.objs.size + 1)) d (.xd [(f, y)]))) E0 := by
    refine ⟨_, y, rfl, upd_same, fun dx n ne => ⟨rfl, dx, upd_same, by rw [upd_ne ne, upd_same], by rw [upd_ne ne] at n; exact n, ?_⟩⟩
    have n2 : H dx = none := by rw [upd_ne ne] at n; exact n
    have eH : upd (del (upd (upd (upd H (hp.objs.size + 1) (exo (hp.objs.size + 1) c none)) dx (exd dx [(f, y)])) (hp.objs.size + 1) (exo (hp.objs.size + 1) c (some dx))) (hp.objs.size + 1)) dx (.xd [(f, y)]) = upd H dx (.xd [(f, y)]) := by
      funext b
      by_cases hb : b = dx
      · rw [hb, upd_same, upd_same]
      · rw [upd_ne hb, upd_ne hb]
        by_cases ha : b = hp.objs.size + 1
        · rw [ha, del_same, hn]
        · rw [del_ne ha, upd_ne ha, upd_ne hb, upd_ne ha]
    rw [eH]
    exact q dx n2
  have hl : (Value.ref (hp.objs.size + 1) :: us ++ ds).length = ps.length := by
    have z := r2.length
    rw [Z.fn.len _ _ _ _ sp] at z
    exact z.symm
  have hus : us.length ≤ sizeLine := by rw [← Paired.length r, sizeLine_eq]; omega
  refine wpAny_call (PySem.HandSPX.call_own Z.T.bk.bf (fun n => refsT_has n bm hbm) (I.kIn _ _ hC) (PySem.W.looks_findIn I.kIn Z.iC) (fun self => PySem.W.bind_fn I.kIn self Z.tI) hus
    (codeAny_mono (Z.fn.run _ X.stack _ _ ⟨Value.ref (hp.objs.size + 1) :: us, []⟩ (Value.ref (hp.objs.size + 1) :: (us ++ ds)) _ _ E0 ((hr.make c us []).mono (by decide)) (I2.env0.make c us []) (Z.bs _ (Value.ref (hp.objs.size + 1) :: us) I2.kIn hl) r2 sp) fun r' s' hq' => ?_))
  cases r' with
  | error er => exact (show False from hq').elim
  | ok fl =>
    cases fl with
    | ret u =>
      obtain ⟨v, H2, os2, bare2, un2, hok2, rv, ev, d, ea, ed, hd1, q2⟩ := hq'
      subst ev
      obtain ⟨h2, g2, d2, t2, os'⟩ := s'
      exact ⟨rv, mk_end (raises_own Z.T.exC Z.T.tyC) I hsz kk un2 hok2 os2 bare2 ea ed hd1 q2⟩
    | next => exact False.elim hq'
    | brk => exact False.elim hq'
    | cont => exact False.elim hq'
theorem pmk_exc (Z : ClsI X c fI f B newId initId tl fd ps ds dvs) (hr : Room 3 X.A) (hg : Gl X x) (hm : X.mg x = some (.ref c)) (ha : PA X (e :: es) ta) (hdb : (x == ("__debug__" : Str)) = false := by decide)
    (he : starEach (e :: es) X.env = (false, eval e X.env) :: starEach es X.env := by rfl) (hpl : (backTo pos (starEach es X.env)).any (·.1) = false := by rfl) : PMk X (.Call (.Name x p) (e :: es) [] pos) (tMkE c f dvs ta) := by
  intro pins s τ H Q I h
  refine wpAny_Call_Name_kw (ld_glob I hg hm ?_ hdb)
  refine PySem.W.callWith_K (h₀ := X.base) I.ok.mod.kin Z.T.kC (thn (ha.run pos pins s τ H _ I h) fun us s1 ⟨vs, H1, I1, r1, y, hy, q⟩ => ⟨I1.kIn, ?_⟩) he hpl
  refine run_exc Z hr I1 r1 ?_ hy q
  have := congrArg List.length hy
  rw [List.length_append, List.length_singleton] at this
  omega
theorem pmk_exc0 (Z : ClsI X c fI f B newId initId tl fd ps ds dvs) (hr : Room 3 X.A) (hg : Gl X x) (hm : X.mg x = some (.ref c)) (hdb : (x == ("__debug__" : Str)) = false := by decide) : PMk X (.Call (.Name x p) [] [] pos) (tMkE c f dvs tNil) := by
  intro pins s τ H Q I h
  obtain ⟨y, hy, q⟩ := h
  refine wpAny_Call_Name_kw (ld_glob I hg hm ?_ hdb)
  exact PySem.W.callWith_K0 I.kIn Z.T.kC (run_exc (us := []) (vs := []) Z hr I .nil (by simp) hy q)

/-! ### an exception as a value -/
theorem Inv.other {g g' : Array GenState} {d d' : Drawn} {t t' : Nat} {os : OsState} {h : Heap} (I : Inv X pins τ H ⟨h, g, d, t, os⟩) (b : AllBare g') : Inv X pins τ H ⟨h, g', d', t', os⟩ :=
  ⟨I.ok, I.os, b, I.base, I.loc, I.cell, I.free, I.freeC, I.pin, I.hok, I.len⟩
theorem exH_ok {P : Program} {w : World} {H : Hp} {h : Heap} {a dd : Addr} {cls : Value} {oe : Obj} {vs : Array Value} (e : h.get? a = some oe) (z : Zc cls (some dd) oe) (d : oe.data = .fields vs) : ObjOk P w H h a (exH cls dd a) :=
  ⟨⟨oe, vs, e, z, d⟩, ⟨oe, e⟩, fun _ _ ⟨o, v, q, r⟩ k => ⟨o, v, k o q, r⟩⟩
/-- what was made becomes a value -/
theorem mk_value {Q : VK} {u : Value} {s' : Shared} (h : MkP X pins τ (fun cls d H' => ∃ dd, d = some dd ∧ ∀ a, H' a = none → Q (.ref a) (upd H' a (exH cls dd a))) u s') : EP X pins τ Q u s' := by
  obtain ⟨a, oe, vs, sI, H', cls, d, rfl, I, k, n0, e, z, hd, h1, na, os, ag, _, dd, rfl, q⟩ := h
  obtain ⟨hI, gI, dI, tI, osI⟩ := sI
  obtain ⟨h', g', d', t', os'⟩ := s'
  have eo : os' = osI := os
  subst eo
  have J := I.laidN (h' := h') (t' := t') (o := exH cls dd a) k n0 na (exH_ok e z hd)
  exact ⟨.ref a, _, TL.Inv.other J ag, rfl, q a na⟩
end

/-! ### over data -/
section
variable {X : Cx} {C : Cn} {fI : Addr} {f : Str} {B newId initId : String} {tl : List Value} {fd : FuncData} {ps : List Str} {dvs : List V} {ds : List Value} {es : List Expr} {e : Expr} {x : Str} {p pos : Pos} {dD : List D} {k : Nat}
/-- raise C(e) -/
def sRaise (i : Nat) (dD : List D) (m : SS → O (List D)) : SS → OS := fun σ => (m σ).bindS fun ds σ1 => match ds ++ dD with
  | [d] => .ex ⟨i, d⟩ σ1
  | _ => .bad
theorem RpL.one {C : Cn} {H : Hp} {d : D} {vs : List V} (h : RpL C H [d] vs) : ∃ v, vs = [v] ∧ Rp C H d v := by
  simp only [RpL] at h
  obtain ⟨v, r, e, h1, h2⟩ := h
  subst h2
  exact ⟨v, e, h1⟩
theorem ClsI.wish (Z : ClsI X (C.ca k) fI f B newId initId tl fd ps ds dvs) (E : Value → Shared → Prop) : ClsI (X.wish E) (C.ca k) fI f B newId initId tl fd ps ds dvs := ⟨Z.T, Z.iC, Z.tI, Z.no, Z.fn, Z.bs, Z.dv⟩
theorem xd_same {H : Hp} {d : Addr} {o : HO} (h : H d = none) : Same H (upd H d o) := same_new h
theorem ms_raise {m : SS → O (List D)} (hc : X.calm = true) (Z : ClsI X (C.ca k) fI f B newId initId tl fd ps ds dvs) {n : Nat} (hr : TRoom n X.A) (hcf : C.cf k = f) (hdd : ∀ H, RpL C H dD dvs) (hg : Gl X x) (hm : X.mg x = some (.ref (C.ca k))) (ha : MA X C (e :: es) m) (hdb : (x == ("__debug__" : Str)) = false := by decide)
    (he : starEach (e :: es) X.env = (false, eval e X.env) :: starEach es X.env := by rfl) (hpl : (backTo pos (starEach es X.env)).any (·.1) = false := by rfl) {pos' : Pos} : MS X C (.Raise (some (.Call (.Name x p) (e :: es) [] pos)) none pos') (sRaise k dD m) := by
  refine ⟨fun E W tk pw => (ps_raise (X := X.wish E) hc tk (pmk_exc (Z.wish E) (hr.room.mono (by decide)) hg hm (ha.pa E W tk) hdb he hpl)).imp fun D' τ H q => ?_⟩
  refine (tSt_bind (R := fun _ => RpL C) q).mono fun vs H1 ⟨dds, r, f1, G, σ, sr, p⟩ => ?_
  dsimp only at p
  split at p
  · rename_i d ed
    have r2 := r.append (hdd H1)
    rw [ed] at r2
    obtain ⟨v, ev, rv⟩ := r2.one
    refine ⟨v, ev, fun d2 hd2 => ?_⟩
    have sm : Same H1 (upd H1 d2 (.xd [(f, v)])) := same_new hd2
    exact p _ _ τ _ ⟨rfl, d2, _, v, rfl, upd_same, by rw [hcf]; simp [List.lookup], rv.fx (.of_same sm)⟩ (sr.same sm) (.of_same sm)
  · exact p.elim
/-- C(e) as a value -/
def sMkE (i : Nat) (dD : List D) (m : SS → O (List D)) : SS → O D := fun σ => (m σ).bind fun ds σ1 => match ds ++ dD with
  | [d] => .ok (.exc i d) σ1
  | _ => .bad
theorem exc_new {H1 : Hp} {d2 a : Addr} {v : V} {d : D} (hcf : C.cf k = f) (hd2 : H1 d2 = none) (ha : upd H1 d2 (.xd [(f, v)]) a = none) (rv : Rp C H1 d v) :
    Same H1 (upd (upd H1 d2 (.xd [(f, v)])) a (exH (.ref (C.ca k)) d2 a)) ∧ Rp C (upd (upd H1 d2 (.xd [(f, v)])) a (exH (.ref (C.ca k)) d2 a)) (.exc k d) (.ref a) := by
  have sm : Same H1 (upd H1 d2 (.xd [(f, v)])) := same_new hd2
  have sm2 : Same (upd H1 d2 (.xd [(f, v)])) (upd (upd H1 d2 (.xd [(f, v)])) a (exH (.ref (C.ca k)) d2 a)) := same_new ha
  refine ⟨sm.trans sm2, ?_⟩
  simp only [Rp]
  exact ⟨a, d2, v, _, rfl, upd_same, sm2 _ _ upd_same, by rw [hcf]; simp [List.lookup], rv.fx (.of_same (sm.trans sm2))⟩
theorem me_mkE {m : SS → O (List D)} (Z : ClsI X (C.ca k) fI f B newId initId tl fd ps ds dvs) {n : Nat} (hr : TRoom n X.A) (hcf : C.cf k = f) (hdd : ∀ H, RpL C H dD dvs) (hg : Gl X x) (hm : X.mg x = some (.ref (C.ca k))) (ha : MA X C (e :: es) m) (hdb : (x == ("__debug__" : Str)) = false := by decide)
    (he : starEach (e :: es) X.env = (false, eval e X.env) :: starEach es X.env := by rfl) (hpl : (backTo pos (starEach es X.env)).any (·.1) = false := by rfl) : ME X C (.Call (.Name x p) (e :: es) [] pos) (sMkE k dD m) := by
  refine ⟨fun E W tk => ⟨fun pins s τ H Q I h => ?_⟩⟩
  refine thn (pmk_exc (Z.wish E) (hr.room.mono (by decide)) hg hm (ha.pa E W tk) hdb he hpl pins s τ H _ I ?_) fun u s' z => mk_value z
  refine (tG_bind (R := fun _ => RpL C) h).mono fun vs H1 ⟨dds, r, f1, G, σ, sr, p⟩ => ?_
  dsimp only at p
  split at p
  · rename_i d ed
    have r2 := r.append (hdd H1)
    rw [ed] at r2
    obtain ⟨v, ev, rv⟩ := r2.one
    refine ⟨v, ev, fun d2 hd2 => ⟨d2, rfl, fun a ha => ?_⟩⟩
    obtain ⟨sm, rx⟩ := exc_new (C := C) (k := k) (d := d) hcf hd2 ha rv
    exact p _ _ rx (sr.same sm) (.of_same sm)
  · exact p.elim
theorem me_mkE0 (Z : ClsI X (C.ca k) fI f B newId initId tl fd ps ds dvs) {n : Nat} (hr : TRoom n X.A) (hcf : C.cf k = f) (hdd : ∀ H, RpL C H dD dvs) (hg : Gl X x) (hm : X.mg x = some (.ref (C.ca k))) (hdb : (x == ("__debug__" : Str)) = false := by decide) :
    ME X C (.Call (.Name x p) [] [] pos) (sMkE k dD sNil) := by
  refine ⟨fun E W tk => ⟨fun pins s τ H Q I h => ?_⟩⟩
  refine thn (pmk_exc0 (Z.wish E) (hr.room.mono (by decide)) hg hm hdb pins s τ H _ I ?_) fun u s' z => mk_value z
  obtain ⟨G, σ, sr, p⟩ := h
  have p : PostG (fun _ => Rp C) C W τ G H (match ([] : List D) ++ dD with | [d] => .ok (.exc k d) σ | _ => .bad) Q := p
  split at p
  · rename_i d ed
    have r2 := hdd H
    rw [List.nil_append] at ed
    rw [ed] at r2
    obtain ⟨v, ev, rv⟩ := r2.one
    refine ⟨v, ev, fun d2 hd2 => ⟨d2, rfl, fun a ha => ?_⟩⟩
    obtain ⟨sm, rx⟩ := exc_new (C := C) (k := k) (d := d) hcf hd2 ha rv
    exact p _ _ rx (sr.same sm) (.of_same sm)
  · exact p.elim
/-- e.f of such a value -/
def sFld (fs : Nat → Bool) (m : SS → O Hd) : SS → O D := fun σ => (m σ).bind fun h σ1 => match res σ1 h with
  | some (.exc c d) => if fs c then .ok d σ1 else .bad
  | _ => .bad
theorem me_fld {m : SS → O Hd} {n : Str} {fs : Nat → Bool} (hK : X.K = C.K) (hf : ∀ c, fs c = true → C.cf c = n ∧ XfC C.K (C.ca c) ∧ PySem.W.findIn C.K (.ref (C.ca c)) n = some none) (h : MH X C e m) (hb : attributeBase e n X.env (eval e X.env) = eval e X.env := by rfl) : ME X C (.Attribute e n pos) (sFld fs m) := by
  refine ⟨fun E W tk => ⟨fun pins s τ H Q I q => ?_⟩⟩
  refine attr_of (env := X.env) hb ?_
  refine thn ((h.pe E W tk).run pins s τ H _ I (tG_bind (R := RH C) q)) fun u s1 ⟨v, H1, I1, ru, h1, r1, f1, G, σ, sr, p⟩ => ?_
  dsimp only at p
  split at p
  · rename_i c d ed
    split at p
    · rename_i hc
      obtain ⟨ecf, xf, hno⟩ := hf c hc
      have rb : Rp C H1 (.exc c d) v := sr.res r1 ed
      simp only [Rp] at rb
      obtain ⟨a, dd, x, fs', rfl, ha, hdd, hl, rx⟩ := rb
      obtain rfl : u = Value.ref a := ru
      obtain ⟨⟨oe, vs, e1, e2, e3⟩, _, _⟩ : ObjOk X.prog X.w H1 s1.heap a (exH (.ref (C.ca c)) dd a) := I1.hok a _ ha
      obtain ⟨mA, hns, hr⟩ : ObjOk X.prog X.w H1 s1.heap dd (.xd fs') := I1.hok dd _ hdd
      obtain ⟨od, ho, hlk⟩ := lookIn_ns hns
      rw [ecf] at hl
      obtain ⟨u2, hu, ru2⟩ := RelO.some_of (v := x) (o := mA n) (by rw [← hl]; exact hr n)
      have J : PySem.W.InstAt s1.heap a oe (C.ca c) (some od) := ⟨e1, e2.1, by unfold PySem.W.notCls; rw [e3] <;> rfl, by rw [e2.2]; exact ho⟩
      exact HandSPX.exc_get (K := C.K) (hK ▸ I1.kIn) J xf.ga xf.gg xf.exC (PySem.W.findObj_own xf.hdC hno rfl (by rw [hlk, hu])) (handed_of ru2) ⟨x, H1, I1.tok _, ru2, p x H1 rx sr (.refl _)⟩
    · exact p.elim
  · exact p.elim
end
end TL

set_option Elab.async false
set_option linter.all false
set_option maxRecDepth 100000
set_option maxHeartbeats 4000000
/-! TL12: list comprehensions. -/
namespace TL
open PySem PySem.Spec PyProof.Rows L2

/-! ### slots forgotten and brought back -/
def wipeS (σ : SS) : List Nat → SS
  | [] => σ
  | v :: vs => (wipeS σ vs).set v none
/-- the slots of vs as they were -/
def bringS (σ0 σ : SS) : List Nat → SS
  | [] => σ
  | v :: vs => match σ0[v]? with
    | some s => (bringS σ0 σ vs).set v s
    | none => bringS σ0 σ vs
def plainAt (σ : SS) : List Nat → Bool
  | [] => true
  | v :: vs => (match σ[v]? with
    | some (some (.val _)) => true
    | some none => true
    | _ => false) && plainAt σ vs
section
variable {C : Cn} {G : Gh} {H H' : Hp} {σ σ0 : SS} {τ : L2.St} {i : Nat}
theorem SR.setNone (h : SR C G H σ τ) : SR C G H (σ.set i none) (τ.set i none) := by
  obtain ⟨l, g, nt, tb, F, h1, h2, h3, h4⟩ := h
  refine ⟨by simpa using l, g, nt, tb, ptF i [] F, fun j sd e => ?_, fun j k b hn h5 h6 => ?_, fun j b hb => ?_, fun j hn => ?_⟩
  · by_cases hj : j = i
    · subst hj
      rw [List.getElem?_set] at e
      split at e
      · split at e <;> cases e
      · exact absurd rfl (by assumption)
    · rw [ptF_ne hj]
      rw [List.getElem?_set_ne (Ne.symm hj)] at e
      rw [List.getElem?_set_ne (Ne.symm hj)]
      exact h1 j sd e
  · by_cases hj : j = i
    · rw [hj, ptF_same] at h5; cases h5
    · rw [ptF_ne hj] at h5
      by_cases hk : k = i
      · rw [hk, ptF_same] at h6; cases h6
      · rw [ptF_ne hk] at h6; exact h2 j k b hn h5 h6
  · by_cases hj : j = i
    · rw [hj, ptF_same] at hb; cases hb
    · rw [ptF_ne hj] at hb; exact h3 j b hb
  · by_cases hj : j = i
    · rw [hj, ptF_same]
    · rw [ptF_ne hj]
      refine h4 j fun sd e => hn sd ?_
      rw [List.getElem?_set_ne (Ne.symm hj)]; exact e
theorem SR.wipe (h : SR C G H σ τ) : ∀ vs, SR C G H (wipeS σ vs) (wipe τ vs)
  | [] => h
  | v :: vs => by unfold wipeS L2.wipe; exact (SR.wipe h vs).setNone
theorem wipe_set_self : ∀ (τ : L2.St) (v : Nat) (x : Option V), τ[v]? = some x → (τ.set v none).set v x = τ := fun τ v x e => by
  rw [List.set_set]
  obtain ⟨h, e⟩ := List.getElem?_eq_some_iff.mp e
  rw [← e]
  exact List.set_getElem_self h
/-- the slots come back, one after another -/
theorem SR.bring (h0 : SR C G H σ0 τ) (f : Fx H H') : ∀ (vs : List Nat) {σ : SS}, vs.Nodup → plainAt σ0 vs = true → (∀ v ∈ vs, v < τ.length) → SR C G H' σ (L2.wipe τ vs) → SR C G H' (bringS σ0 σ vs) τ := by
  -- by what is left to bring
  have go : ∀ (vs : List Nat) {σ : SS} {τ' : L2.St}, plainAt σ0 vs = true → SR C G H' σ τ' → τ'.length = τ.length → ∃ τ'', τ''.length = τ.length ∧ SR C G H' (bringS σ0 σ vs) τ'' ∧ (∀ j, j ∉ vs → τ''[j]? = τ'[j]?) ∧ (∀ j, j ∈ vs → ∀ x, τ[j]? = some x → τ''[j]? = some x ∨ (τ''[j]? = some none ∧ σ0[j]? = some none)) := by
    intro vs
    induction vs with
    | nil => intro σ τ' _ h hl; exact ⟨τ', hl, h, fun _ _ => rfl, fun j hj => by cases hj⟩
    | cons v vs ih =>
      intro σ τ' hp h hl
      unfold plainAt at hp
      rw [Bool.and_eq_true] at hp
      obtain ⟨τ2, l2, s2, o2, i2⟩ := ih hp.2 h hl
      unfold bringS
      have hp1 := hp.1
      split at hp1
      · rename_i d e
        rw [e]
        obtain ⟨x, F, e1, r, _⟩ := h0.at e
        refine ⟨τ2.set v (some x), by simpa using l2, s2.setVal (r.fx f), fun j hj => ?_, fun j hj y ey => ?_⟩
        · rw [List.getElem?_set_ne (fun z => hj (by rw [z]; exact List.mem_cons_self))]
          exact o2 j fun z => hj (List.mem_cons_of_mem _ z)
        · by_cases hjv : j = v
          · subst hjv
            rw [e1] at ey
            refine .inl ?_
            rw [List.getElem?_set, if_pos rfl, if_pos (by rw [l2]; exact (List.getElem?_eq_some_iff.mp e1).1)]
            exact ey
          · rw [List.getElem?_set_ne (Ne.symm hjv)]
            exact i2 j (by cases hj with | head => exact absurd rfl hjv | tail _ z => exact z) y ey
      · rename_i e
        rw [e]
        refine ⟨τ2.set v none, by simpa using l2, s2.setNone, fun j hj => ?_, fun j hj y ey => ?_⟩
        · rw [List.getElem?_set_ne (fun z => hj (by rw [z]; exact List.mem_cons_self))]
          exact o2 j fun z => hj (List.mem_cons_of_mem _ z)
        · by_cases hjv : j = v
          · subst hjv
            refine .inr ⟨?_, e⟩
            rw [List.getElem?_set, if_pos rfl, if_pos (by rw [l2]; exact (List.getElem?_eq_some_iff.mp ey).1)]
          · rw [List.getElem?_set_ne (Ne.symm hjv)]
            exact i2 j (by cases hj with | head => exact absurd rfl hjv | tail _ z => exact z) y ey
      · cases hp1
  intro vs σ hn hp hv h
  obtain ⟨τ'', l, s, o, i⟩ := go vs hp h (wipe_length τ vs)
  -- the slots of τ'' are τ's, but for those that nobody knows
  obtain ⟨l1, g, nt, tb, F, h1, h2, h3, h4⟩ := s
  refine ⟨by rw [l1, l], g, nt, tb, F, fun j sd e => ?_, h2, h3, h4⟩
  obtain ⟨v, e1, r⟩ := h1 j sd e
  refine ⟨v, ?_, r⟩
  by_cases hj : j ∈ vs
  · have hlt := hv j hj
    rcases i j hj _ (List.getElem?_eq_getElem hlt) with q | ⟨q, _⟩
    · rw [q] at e1
      rw [List.getElem?_eq_getElem hlt, e1]
    · rw [q] at e1; cases e1
  · rw [o j hj, wipe_out hj] at e1
    exact e1
/-- the thing that is nobody's is written, and stays nobody's -/
theorem SR.reG {a : Addr} {o o2 : HO} (h : SR C ⟨upd G.hp a o, G.at_⟩ H σ τ) (ha : H a = some o) (d : fixd o = false) (nt2 : notTbl o = true) (n2 : notTbl o2 = true) : SR C ⟨upd G.hp a o2, G.at_⟩ (upd H a o2) σ τ := by
  obtain ⟨l, g, nt, tb, F, h1, h2, h3, h4⟩ := h
  have f : Fx H (upd H a o2) := Fx.upd ha d nt2
  have na : ∀ j b, b ∈ F j → b ≠ a := fun j b hb e => by
    have z : upd G.hp a o b = none := h3 j b hb
    rw [e, upd_same] at z; cases z
  refine ⟨l, fun b u e => ?_, fun b u e => ?_, f.2 _ tb, F, fun j sd e => ?_, h2, fun j b hb => ?_, h4⟩
  · have e : upd G.hp a o2 b = some u := e
    by_cases hb : b = a
    · subst hb
      rw [upd_same] at e ⊢; exact e
    · rw [upd_ne hb] at e ⊢
      exact g b u (by show upd G.hp a o b = some u; rw [upd_ne hb]; exact e)
  · have e : upd G.hp a o2 b = some u := e
    by_cases hb : b = a
    · subst hb
      rw [upd_same] at e; cases e; exact n2
    · rw [upd_ne hb] at e
      exact nt b u (by show upd G.hp a o b = some u; rw [upd_ne hb]; exact e)
  · obtain ⟨w, e1, r⟩ := h1 j sd e
    refine ⟨w, e1, ?_⟩
    have r' : RSD C G H sd w (F j) := by cases sd <;> exact r
    have r2 := r'.keep f fun b hb => upd_ne (na j b hb)
    cases sd <;> exact r2
  · have z : upd G.hp a o b = none := h3 j b hb
    show upd G.hp a o2 b = none
    rw [upd_ne (na j b hb)] at z ⊢; exact z
end
theorem wr_wipe {vs ws : List Nat} {τ τ' : L2.St} (h : Wr ws (wipe τ vs) τ') (s : ∀ j ∈ ws, j ∈ vs) : wipe τ' vs = wipe τ vs := by
  have hin : ∀ (vs : List Nat) (τ : L2.St) (j : Nat), j ∈ vs → j < τ.length → (wipe τ vs)[j]? = some none := fun vs => by
    induction vs with
    | nil => intro τ j hj; cases hj
    | cons v vs ih =>
      intro τ j hj hl
      unfold L2.wipe
      by_cases e : v = j
      · subst e
        rw [List.getElem?_set, if_pos rfl, if_pos (by rw [wipe_length]; exact hl)]
      · rw [List.getElem?_set_ne e]
        exact ih τ j (by cases hj with | head => exact absurd rfl e | tail _ z => exact z) hl
  have hl : τ'.length = τ.length := h.1.trans (wipe_length τ vs)
  refine List.ext_getElem? fun j => ?_
  by_cases hj : j ∈ vs
  · by_cases hlt : j < τ.length
    · rw [hin vs τ' j hj (by omega), hin vs τ j hj hlt]
    · rw [List.getElem?_eq_none (by rw [wipe_length]; omega), List.getElem?_eq_none (by rw [wipe_length]; omega)]
  · rw [wipe_out hj, h.2 j fun z => hj (s j z)]

/-! ### the conditions of a comprehension -/
structure MIf (X : Cx) (C : Cn) (es : List Expr) (m : SS → O Bool) : Prop where
  pt : ∀ E W, Takes (X.wish E) W → PTs (X.wish E) es (tT C W m)
theorem _root_.L2.PTs.imp {X : Cx} {e : List Expr} {t t' : TT} (h : PTs X e t) (k : ∀ τ H Q, t' τ H Q → t τ H Q) : PTs X e t' := ⟨fun p s τ H Q I q => h.run p s τ H Q I (k _ _ _ q)⟩
def sYes : SS → O Bool := fun σ => .ok true σ
theorem mif_nil {X : Cx} {C : Cn} : MIf X C [] sYes := ⟨fun E W tk => pts_nil.imp fun τ H Q h => tG_ret h _ rfl⟩
theorem mif_one {X : Cx} {C : Cn} {e : Expr} {m : SS → O Bool} (h : MT X C e m) : MIf X C [e] m := ⟨fun E W tk => pts_one (h.pt E W tk)⟩

/-! ### [elt for target in iter if ..] -/
def sLcL (vs : List Nat) (g : D → SS → Option SS) (t : SS → O Bool) (m : SS → O D) : List D → List D → SS → O (List D)
  | [], acc, σ => .ok acc σ
  | d :: ds, acc, σ => match g d σ with
    | some σ1 => match t σ1 with
      | .ok true σ2 => match m σ2 with
        | .ok x σ3 => sLcL vs g t m ds (acc ++ [x]) (wipeS σ3 vs)
        | _ => .bad
      | .ok false σ2 => sLcL vs g t m ds acc (wipeS σ2 vs)
      | _ => .bad
    | none => .bad
def sLc (vs : List Nat) (mi : SS → O (List D)) (g : D → SS → Option SS) (t : SS → O Bool) (m : SS → O D) : SS → O (List D) := fun σ => (mi σ).bind fun ds σ1 => if plainAt σ1 vs = true ∧ ds.length ≤ LIM then match sLcL vs g t m ds [] (wipeS σ1 vs) with
  | .ok acc σ2 => .ok acc (bringS σ1 σ2 vs)
  | _ => .bad else .bad
section
variable {X : Cx} {C : Cn}
theorem takes_no {Y : Cx} : Takes (Y.wish fun _ _ => False) (fun _ _ _ _ => False) := fun u s' ⟨_, _, _, _, _, _, _, _, _, _, _, _, _, _, _, _, z⟩ => z
theorem mf_lc {elt tg iter : Expr} {ifs : List Expr} {scope : Scope} {own : List (Str × Nat)} {vs ws : List Nat} {pos : Pos} {mi : SS → O (List D)} {g : D → SS → Option SS} {t : SS → O Bool} {m : SS → O D} (hc : X.calm = true) (hN : X.N.Nodup) (hvs : own.map (·.2) = vs) (hnd : vs.Nodup) (hlt : ∀ v ∈ vs, v < X.N.length) (hws : ∀ j ∈ ws, j ∈ vs)
    (hi : MI X C tg iter mi) (ok : BlkOk X.N X.env.scope scope own)
    (hg : ∀ (s : Shared) (H : Hp) (Ca : Addr) (cl : List (Str × Addr)) (fp : List Addr), MG (X.blk s H scope (compEnvC scope cl Ca X.env) fp) C tg ws g)
    (ht : ∀ (s : Shared) (H : Hp) (Ca : Addr) (cl : List (Str × Addr)) (fp : List Addr), MIf (X.blk s H scope (compEnvC scope cl Ca X.env) fp) C ifs t)
    (he : ∀ (s : Shared) (H : Hp) (Ca : Addr) (cl : List (Str × Addr)) (fp : List Addr), ME (X.blk s H scope (compEnvC scope cl Ca X.env) fp) C elt m)
    (hs : ∀ x, foldedSetIterable iter X.env x = pure x := by intro _; rfl) : MF X C (.ListComp elt [⟨tg, iter, ifs, 0⟩] scope pos) (sLc vs mi g t m) := by
  subst hvs
  refine ⟨fun E W tk => ?_⟩
  have base := pe_lc (X := X.wish E) (pos := pos) hc hN (hi.pi E W tk) ok (fun s H Ca cl fp => (hg s H Ca cl fp).pg (fun _ _ => False)) (fun s H Ca cl fp => (ht s H Ca cl fp).pt (fun _ _ => False) _ takes_no) (fun s H Ca cl fp => (he s H Ca cl fp).pe (fun _ _ => False) _ takes_no) hs
  refine ⟨fun pins s τ H Q I h => base.run pins s τ H Q I ?_⟩
  have hτ : τ.length = X.N.length := I.len
  refine (tF_bind (R := fun _ H ds J => ItOk C J H ds) h).mono fun J H1 ⟨ds, jo, f1, G, σ, sr, p⟩ => ?_
  dsimp only at p
  split at p
  · rename_i hpl
    intro Dl nD
    have nG : G.hp Dl = none := by
      cases q : G.hp Dl with
      | none => rfl
      | some u => rw [sr.gr Dl u q] at nD; cases nD
    have n0 : SR C ⟨upd G.hp Dl (.lst []), G.at_⟩ (upd H1 Dl (.lst [])) (wipeS σ (own.map (·.2))) (wipe τ (own.map (·.2))) := (sr.new (o := .lst []) nD).2.wipe _
    have fD : Fx H1 (upd H1 Dl (.lst [])) := .of_same (same_new nD)
    refine ⟨fun i k H => k = ds.length - i ∧ i ≤ ds.length ∧ ∃ acc accV σ', H Dl = some (.lst accV) ∧ RpL C H acc accV ∧ acc.length ≤ i ∧ SR C ⟨upd G.hp Dl (.lst accV), G.at_⟩ H σ' (wipe τ (own.map (·.2))) ∧ Fx H1 H ∧
        PostF C W τ G H1 (match sLcL (own.map (·.2)) g t m (ds.drop i) acc σ' with | .ok acc σ2 => .ok acc (bringS σ σ2 (own.map (·.2))) | _ => .bad) Q, ⟨ds.length, by simp, Nat.zero_le _, [], [], _, upd_same, .nil, Nat.zero_le _, n0, fD, by simpa using p⟩, ?_⟩
    rintro i k H2 ⟨rfl, hil, acc, accV, σ2, eD, rD2, hal, s2, f2, p2⟩
    by_cases hlt2 : i < ds.length
    · refine .inr ⟨jo.1 i H2 f2 hlt2, fun H' => ∃ acc accV σ', H' Dl = some (.lst accV) ∧ RpL C H' acc accV ∧ acc.length ≤ i + 1 ∧ SR C ⟨upd G.hp Dl (.lst accV), G.at_⟩ H' σ' (wipe τ (own.map (·.2))) ∧ Fx H1 H' ∧
        PostF C W τ G H1 (match sLcL (own.map (·.2)) g t m (ds.drop (i + 1)) acc σ' with | .ok acc σ2 => .ok acc (bringS σ σ2 (own.map (·.2))) | _ => .bad) Q, fun H' n => ⟨ds.length - (i + 1), by omega, rfl, hlt2, n⟩, fun x H3 y => ?_⟩
      obtain ⟨sm, d, e, rd⟩ := jo.2.1 i H2 x H3 f2 hlt2 y
      have ed : ds.drop i = d :: ds.drop (i + 1) := by
        rw [List.drop_eq_getElem_cons hlt2]
        rw [List.getElem?_eq_getElem hlt2] at e
        cases e; rfl
      rw [ed] at p2
      have s3 := s2.same sm
      have eD3 := sm _ _ eD
      have rD3 := rD2.fx (.of_same sm)
      unfold sLcL at p2
      cases eg : g d σ2 with
      | none => rw [eg] at p2; exact p2.elim
      | some σ3 =>
        rw [eg] at p2
        dsimp only at p2
        refine ⟨d, ⟨upd G.hp Dl (.lst accV), G.at_⟩, σ2, σ3, rd, s3, eg, fun τ3 s4 w4 => ⟨wr_wipe w4 hws, ⟨upd G.hp Dl (.lst accV), G.at_⟩, σ3, s4, ?_⟩⟩
        have wp := wr_wipe w4 hws
        have f3 : Fx H1 H3 := f2.trans (.of_same sm)
        cases et : t σ3 with
        | bad => rw [et] at p2; exact p2.elim
        | ex x σ4 => rw [et] at p2; exact p2.elim
        | ok b σ4 =>
          rw [et] at p2
          intro b' H4 eb s5 f4
          subst eb
          cases b' with
          | false =>
            refine iteF ⟨acc, accV, wipeS σ4 (own.map (·.2)), s5.gr Dl _ upd_same, rD3.fx f4, by omega, ?_, f3.trans f4, p2⟩
            have := s5.wipe (own.map (·.2))
            rw [wp] at this
            exact this
          | true =>
            refine iteT ⟨⟨upd G.hp Dl (.lst accV), G.at_⟩, σ4, s5, ?_⟩
            dsimp only at p2
            cases em : m σ4 with
            | bad => rw [em] at p2; exact p2.elim
            | ex x σ5 => rw [em] at p2; exact p2.elim
            | ok z σ5 =>
              rw [em] at p2
              intro zv H5 rz s6 f5
              have eD5 : H5 Dl = some (.lst accV) := s6.gr Dl _ upd_same
              have rD5 := (rD3.fx f4).fx f5
              have hlen : accV.length = acc.length := rD5.length
              have fu : Fx H5 (upd H5 Dl (.lst (accV ++ [zv]))) := Fx.upd eD5 rfl
              refine ⟨accV, eD5, by rw [hlen, LIM_eq]; omega, acc ++ [z], accV ++ [zv], wipeS σ5 (own.map (·.2)), upd_same, (rD5.append (.cons rz .nil)).fx fu, by rw [List.length_append]; simpa using hal, ?_, ((f3.trans f4).trans f5).trans fu, p2⟩
              have := (s6.reG (o2 := .lst (accV ++ [zv])) eD5 rfl rfl rfl).wipe (own.map (·.2))
              rw [wp] at this
              exact this
    · have e : i = ds.length := by omega
      subst e
      rw [List.drop_length] at p2
      refine .inl ⟨jo.2.2 H2 f2, ?_⟩
      have p2 : PostF C W τ G H1 (.ok acc (bringS σ σ2 (own.map (·.2)))) Q := p2
      refine p2 Dl accV H2 eD rD2 nG ?_ f2
      have hb : SR C ⟨upd G.hp Dl (.lst accV), G.at_⟩ (upd H1 Dl (.lst accV)) σ τ := (sr.new (o := .lst accV) nD).2
      have fb : Fx (upd H1 Dl (.lst accV)) H2 := ⟨fun a o q d => by
        by_cases hb : a = Dl
        · subst hb; rw [upd_same] at q; cases q; cases d
        · rw [upd_ne hb] at q; exact f2.1 a o q d, fun T hT => f2.2 T ?_⟩
      · exact hb.bring fb _ hnd hpl.1 (fun v hv => by rw [hτ]; exact hlt v hv) s2
      · -- tables ahead of the list
        intro pa hp
        obtain ⟨ps, q1, q2, q3⟩ := hT pa hp
        have nn : ∀ {b : Addr} {o : HO}, upd H1 Dl (.lst accV) b = some o → (∀ xs, o ≠ .lst xs) → H1 b = some o := fun {b o} q hn => by
          by_cases hb : b = Dl
          · subst hb; rw [upd_same] at q; cases q; exact absurd rfl (hn _)
          · rw [upd_ne hb] at q; exact q
        refine ⟨ps, nn q1 (fun xs z => by cases z), q2, fun pos cv hc => ?_⟩
        obtain ⟨c, e1, e2⟩ := q3 pos cv hc
        exact ⟨c, e1, nn e2 (fun xs z => by cases z)⟩
  · exact p.elim
end
end TL

set_option Elab.async false
set_option linter.all false
set_option maxRecDepth 100000
set_option maxHeartbeats 4000000
/-! TL13: isinstance of exceptions that are values. -/
namespace TL
section Kit
open PySem PySem.Spec PySem.Calls PyProof.Rows PySem.W
variable {prog : Program} {w : World} {A : Around} {E : Value → Shared → Prop} {s : Shared} {K : Frag} {x D : Addr} {ox : Obj} {od : Option Obj}
/-- what the class of an exception says of __class__ -/
structure EkC (K : Frag) (D : Addr) : Prop where
  g1 : findIn K (.ref D) "__getattribute__" = some (some (.builtin "BaseException.__getattribute__"))
  g2 : findIn K (.ref D) "__getattr__" = some none
  g3 : subIn K (.ref D) (.type "BaseException") = some true
  g4 : (clsIn K D).isSome = true
  g5 : findIn K (.ref D) "__class__" = some (some (.builtin "object.__class__"))
  g6 : specialIn K (.builtin "object.__class__") "__get__" = some (some (.builtin "getset_descriptor.__get__"))
  g7 : takesIn K (.builtin "object.__class__") = some true
  g8 : mroIn K D (.type "object") = some true
theorem EkC.found (c : EkC K D) (od : Option Obj) : findObj K D od "__class__" = some (.bind (.builtin "getset_descriptor.__get__") (.builtin "object.__class__")) := by
  obtain ⟨cd, e⟩ := Option.isSome_iff_exists.mp c.g4
  unfold findObj
  rw [e, Option.bind_some, c.g5]
  rw [Option.bind_some]; simp [c.g6, c.g7]
/-- x.__class__, x such an exception -/
theorem EkC.ask (c : EkC K D) {Q : Option Value → Shared → Prop} (KI : K.In s.heap) (J : InstAt s.heap x ox D od) (h : Q (some (.ref D)) { s with toks := s.toks + 1 }) : wpAny (model prog w) A (getAttr? (.ref x) "__class__") Q E s := by
  obtain ⟨hp, g, d, t, os⟩ := s
  have t0 := J.type (M := model prog w)
  have t1 := looks_findIn (M := model prog w) KI c.g1
  have t2 := looks_findIn (M := model prog w) KI c.g2
  have t3 := looks_find (M := model prog w) KI J (c.found od)
  have isB : Looks (model prog w) hp (isInstance (.ref x) (.type "BaseException")) true := t0.andThen (looks_subIn KI c.g3)
  have n0 : (false && onTheHeap (Value.builtin "BaseException.__getattribute__")) = false := rfl
  have n2 : (Value.builtin "BaseException.__getattribute__" == Value.builtin "object.__getattribute__") = false := by decide +kernel
  have n1 : (onTheHeap (Value.ref D) && Value.builtin "BaseException.__getattribute__" == Value.builtin "object.__getattribute__") = false := by rw [n2]; rfl
  unfold getAttr? getAttrBy? getAttrBy
  refine wpAny_bind (wpAny_mkText (wpAny_bind (wpAny_attempt (wpAny_holding (wpAny_bind (t0.at (wpAny_bind (t1.at ?_))))))))
  show wpAny _ _ (if (onTheHeap (Value.ref D) && Value.builtin "BaseException.__getattribute__" == Value.builtin "object.__getattribute__") = true then _ else _) _ _ _
  rw [n1, if_neg Bool.false_ne_true]
  unfold getAttrByItsOwn hookBefore; refine wpAny_bind ?_
  rw [if_pos (show onTheHeap (Value.ref D) = true from rfl)]; refine t2.at ?_
  refine wpAny_bind (wpAny_attempt (wpAny_holding ?_)); unfold callGetattribute
  rw [n0, if_neg Bool.false_ne_true]; unfold boundAndCalled
  rw [PySem.F.excAttr_ValueError.ga.bind (.ref x)]; refine wpAny_bind (wpAny_pure ?_)
  show wpAny _ _ (call (.builtin "BaseException.__getattribute__") [.ref x, .str "__class__" t]) _ _ _
  refine wpAny_call (codeAny_call_builtin PySem.F.excAttr_ValueError.ga.plain PySem.F.entry_bexc_ga (@check_slot (model prog w) _ _ ⟨hp, g, d, t + 1, os⟩ "BaseException.__getattribute__" "BaseException" "__getattribute__" (.ref x) [.str "__class__" t] [] _ (by decide +kernel) (by decide +kernel) isB (PySem.F.args_bexc_ga (.ref x) (.str "__class__" t)) ?_))
  unfold Builtin.«object.__getattribute__»
  refine wpAny_bind (wpAny_of_eq (a := ((Value.ref x : Value), [Value.str "__class__" t])) (by first | rfl | (simp only [slotArgs]; rfl)) (wpAny_bind (wpAny_pure (wpAny_bind (t0.at (wpAny_bind (t3.at ?_)))))))
  show wpAny _ _ (holding [Value.builtin "object.__class__"] (call (.builtin "getset_descriptor.__get__") [.builtin "object.__class__", .ref x, .ref D]) >>= ret) _ _ _
  refine wpAny_bind (wpAny_holding (wpAny_call (class_get (s := ⟨hp, g, d, t + 1, os⟩) (ox := ox) (od := od) KI J c.g8 (wpAny_pure ?_))))
  show wpAny _ _ (handedOut (.ref D)) _ _ _
  rw [handedOut_of (v := .ref D) rfl]
  first
    | exact wpAny_pure (wpAny_pure h)
    | exact wpAny_pure h
    | exact wpAny_pure (wpAny_bind (wpAny_pure (wpAny_pure h)))
theorem EkC.kit (c : EkC K D) : KitX K (.ref x) (.ref D) (fun h => InstAt h x ox D od) where
  ty := fun _ _ _ J => J.type
  it := fun _ _ KI _ => by
    obtain ⟨cdD, hcD⟩ := Option.isSome_iff_exists.mp c.g4
    unfold clsIn at hcD
    split at hcD
    · rename_i c' d' cd' sl' ho
      intro A' Q' E' s' k q; unfold isType loadHead
      exact wpAny_bind (wpAny_loadPart (k _ _ (KI _ _ ho)) (wpAny_pure q))
    · cases hcD
  ne := fun h tp dd its n sl KI htp => by
    obtain ⟨cdD, hcD⟩ := Option.isSome_iff_exists.mp c.g4
    refine Bool.eq_false_iff.mpr fun q => ?_
    have e : D = tp := Value.ref.inj (beq_iff_eq.mp q)
    subst e; unfold clsIn at hcD
    split at hcD
    · rename_i c' d' cd' sl' ho
      have z := (KI _ _ ho).symm.trans htp; cases z
    · cases hcD
  ca := fun KI J k => c.ask KI J k
end Kit

open PySem PySem.Spec PyProof.Rows L2
/-! ### isinstance(e, T) -/
inductive Ty | bool | int | str | tuple | list
def Ty.name : Ty → String
  | .bool => "bool" | .int => "int" | .str => "str" | .tuple => "tuple" | .list => "list"
def isA : Ty → D → Bool
  | .bool, .bl _ => true
  | .int, .bl _ => true
  | .int, .int _ => true
  | .str, .str _ => true
  | .tuple, .tup _ => true
  | .list, .lst _ => true
  | _, _ => false
def tyN : D → Option String
  | .non => some "NoneType" | .bl _ => some "bool" | .int _ => some "int" | .str _ => some "str" | .tup _ => some "tuple" | .lst _ => some "list"
  | _ => none
def isT (T : Ty) (d : D) : Option Bool := (tyN d).map fun _ => isA T d
theorem isA_kit {T : Ty} {d : D} {n : String} (h : tyN d = some n) : kitB n T.name = some (isA T d) := by
  cases d <;> simp only [tyN] at h <;> cases h <;> cases T <;> simp only [Ty.name, isA] <;> decide +kernel
theorem Rb.tyx {C : Cn} {H : Hp} {d : D} {v : V} {n : String} (r : Rb C H d v) (h : tyN d = some n) : TyX C.K H v (.type n) := by
  cases d with
  | non => cases h; have := r.non; subst this; exact .base .non
  | bl b => cases h; have := r.bl; subst this; exact .base (.bl _)
  | int b => cases h; have := r.int; subst this; exact .base (.int _)
  | str b => cases h; have := r.str; subst this; exact .base (.str _)
  | tup ds =>
    cases h
    obtain ⟨a, vs, rfl, s, _⟩ := r.tup
    rcases s with (s | ⟨o, s⟩) | ⟨o, its, n, e, ec, _⟩
    · exact .base (.tup s)
    · exact .fTuple s
    · exact .kTuple e ec
  | lst ds =>
    cases h
    obtain ⟨a, vs, rfl, s, _⟩ := r.lst
    rcases s with (s | ⟨o, s⟩) | ⟨o, its, n, e, ec, _⟩
    · exact .base (.lst s)
    · exact .base (.frz s)
    · exact .kList e ec
  | _ => cases h
section
variable {X : Cx} {C : Cn} {pos p1 p2 : Pos} {e : Expr} {x : Str} {m : SS → O Hd}
def sIsi (q : D → Option Bool) (m : SS → O Hd) : SS → O D := fun σ => (m σ).bind fun h σ1 => match res σ1 h with
  | some d => ofOpt ((q d).map .bl) σ1
  | none => .bad
theorem isi_core {q : D → Option Bool} {W : WX} {τ : L2.St} {H : Hp} {Q : VK} (h : tE C W (sIsi q m) τ H Q) : tHd C W m τ H fun x H1 => ∃ d k, Rb C H1 d x ∧ q d = some k ∧ Q (.bl k) H1 := by
  refine (tG_bind (R := RH C) h).mono fun x H1 ⟨h1, r1, f1, G, σ, sr, p⟩ => ?_
  dsimp only at p
  split at p
  · rename_i d e
    cases e2 : q d with
    | none => rw [e2] at p; exact p.elim
    | some k => rw [e2] at p; exact ⟨d, k, sr.res r1 e, e2, p _ H1 .b sr (.refl _)⟩
  · exact p.elim
/-- a built-in type, asked of plain data -/
theorem me_isT (T : Ty) (hK : X.K = C.K) (hg : Gl X "isinstance") (hm : X.mg "isinstance" = none) (hgT : Gl X x) (hmT : X.mg x = none) (hv : bootBuiltins x = some (.type T.name)) (h : MH X C e m) (hn : x ≠ "__name__" := by decide) (hdb : (x == ("__debug__" : Str)) = false := by decide)
    (hs : starEach [e, .Name x p2] X.env = (false, eval e X.env) :: starEach [.Name x p2] X.env := by rfl) (hs2 : starEach [.Name x p2] X.env = (false, eval (.Name x p2) X.env) :: starEach [] X.env := by rfl)
    (hpl : (backTo pos (starEach [.Name x p2] X.env)).any (·.1) = false := by rfl) : ME X C (.Call (.Name "isinstance" p1) [e, .Name x p2] [] pos) (sIsi (isT T) m) := by
  refine ⟨fun E W tk => ?_⟩
  have pT : PE (X.wish E) (.Name x p2) (fun σ H Q => Q (.ty T.name) H) := ⟨fun pins s σ H Q I q => ld_blt (E := (X.wish E).xe) I hgT hmT hv ⟨.ty T.name, H, I, rfl, q⟩ hn hdb⟩
  refine (pe_callB (X := X.wish E) (call_isi (X := X.wish E)) hg hm rfl (pa_cons (h.pe E W tk) (pa_cons pT pa_nil hs2) hs) (by decide) (by decide) hs hpl).imp fun τ H Q q => ?_
  refine (isi_core q).mono fun v H1 ⟨d, k, r, e2, q2⟩ => ?_
  unfold isT at e2
  cases e3 : tyN d with
  | none => rw [e3] at e2; cases e2
  | some n =>
    rw [e3] at e2; cases e2
    refine ⟨v, .ty T.name, .type n, .type T.name, isA T d, rfl, .ty _, ?_, kit_ty (isA_kit e3), q2⟩
    rw [show (X.wish E).K = C.K from hK]; exact r.tyx e3
/-- a class of the text or a built-in one, asked of an exception -/
def isX (q : Nat → Option Bool) : D → Option Bool
  | .exc c _ => q c
  | .err c _ => q c
  | _ => none
theorem call_isX (hK : X.K = C.K) {q : Nat → Option Bool} {c : V} {cv : Value} (hcv : ∀ u, RelV c u → u = cv) (hq : ∀ i b, q i = some b → EkC C.K (C.ca i) ∧ PySem.W.kitOne C.K (.ref (C.ca i)) cv = some b) :
    CallR X (.builtin "isinstance") (fun xs H Q => ∃ x d b, xs = [x, c] ∧ Rb C H d x ∧ isX q d = some b ∧ Q (.bl b) H) := by
  intro pins s σ H xs us Q I r h
  obtain ⟨x, d, b, rfl, rd, eq, q2⟩ := h
  obtain ⟨u1, u2, rfl, r1, r2⟩ := vals2 r
  have := hcv _ r2; subst this
  unfold isX at eq
  split at eq
  · rename_i i d'
    obtain ⟨ek, e⟩ := hq _ _ eq
    have rd : Rp C H (.exc i d') x := rd
    simp only [Rp] at rd
    obtain ⟨a, dd, y, fs, rfl, ha, hd, _⟩ := rd
    obtain rfl : u1 = Value.ref a := r1
    obtain ⟨⟨oe, vs, e1, e2, e3⟩, _, _⟩ : ObjOk X.prog X.w H s.heap a (exH (.ref (C.ca i)) dd a) := I.hok a _ ha
    obtain ⟨mA, hns, hr⟩ : ObjOk X.prog X.w H s.heap dd (.xd fs) := I.hok dd _ hd
    obtain ⟨od, ho, hlk⟩ := lookIn_ns hns
    have J : PySem.W.InstAt s.heap a oe (C.ca i) (some od) := ⟨e1, e2.1, by unfold PySem.W.notCls; rw [e3] <;> rfl, by rw [e2.2]; exact ho⟩
    exact PySem.W.kia_one ek.kit (hK ▸ I.kIn) J e (fun z => nomatch z) fun tk => ⟨.bl b, H, I.tok tk, rfl, q2⟩
  · rename_i i d'
    obtain ⟨ek, e⟩ := hq _ _ eq
    have rd : Rp C H (.err i d') x := rd
    simp only [Rp] at rd
    obtain ⟨a, dd, t1, y, fs, rfl, ha, hd, _⟩ := rd
    obtain rfl : u1 = Value.ref a := r1
    obtain ⟨e1, _, _⟩ : ObjOk X.prog X.w H s.heap a (exoA a (C.ca i) t1 (some dd)) := I.hok a _ ha
    obtain ⟨mA, hns, hr⟩ := exd_at I.hok hd
    obtain ⟨od, ho, hlk⟩ := lookIn_ns hns
    have J : PySem.W.InstAt s.heap a _ (C.ca i) (some od) := ⟨e1, rfl, rfl, ho⟩
    exact PySem.W.kia_one ek.kit (hK ▸ I.kIn) J e (fun z => nomatch z) fun tk => ⟨.bl b, H, I.tok tk, rfl, q2⟩
  · cases eq
theorem me_isO {q : Nat → Option Bool} {cv : Addr} (hK : X.K = C.K) (hq : ∀ i b, q i = some b → EkC C.K (C.ca i) ∧ PySem.W.kitOne C.K (.ref (C.ca i)) (.ref cv) = some b) (hg : Gl X "isinstance") (hm : X.mg "isinstance" = none) (hgT : Gl X x) (hmT : X.mg x = some (.ref cv)) (h : MH X C e m) (hdb : (x == ("__debug__" : Str)) = false := by decide)
    (hs : starEach [e, .Name x p2] X.env = (false, eval e X.env) :: starEach [.Name x p2] X.env := by rfl) (hs2 : starEach [.Name x p2] X.env = (false, eval (.Name x p2) X.env) :: starEach [] X.env := by rfl)
    (hpl : (backTo pos (starEach [.Name x p2] X.env)).any (·.1) = false := by rfl) : ME X C (.Call (.Name "isinstance" p1) [e, .Name x p2] [] pos) (sIsi (isX q) m) := by
  refine ⟨fun E W tk => ?_⟩
  have pT : PE (X.wish E) (.Name x p2) (fun σ H Q => Q (.ref cv) H) := ⟨fun pins s σ H Q I q => ld_glob (E := (X.wish E).xe) I hgT hmT ⟨.ref cv, H, I, rfl, q⟩ hdb⟩
  refine (pe_callB (X := X.wish E) (call_isX (X := X.wish E) (C := C) hK (c := .ref cv) (cv := .ref cv) (fun u r => r) hq) hg hm rfl (pa_cons (h.pe E W tk) (pa_cons pT pa_nil hs2) hs) (by decide) (by decide) hs hpl).imp fun τ H Q q => ?_
  exact (isi_core q).mono fun v H1 ⟨d, k, r, e2, q2⟩ => ⟨v, d, k, rfl, r, e2, q2⟩
theorem me_isB {q : Nat → Option Bool} {T : String} (hK : X.K = C.K) (hq : ∀ i b, q i = some b → EkC C.K (C.ca i) ∧ PySem.W.kitOne C.K (.ref (C.ca i)) (.type T) = some b) (hg : Gl X "isinstance") (hm : X.mg "isinstance" = none) (hgT : Gl X x) (hmT : X.mg x = none) (hv : bootBuiltins x = some (.type T)) (h : MH X C e m) (hn : x ≠ "__name__" := by decide) (hdb : (x == ("__debug__" : Str)) = false := by decide)
    (hs : starEach [e, .Name x p2] X.env = (false, eval e X.env) :: starEach [.Name x p2] X.env := by rfl) (hs2 : starEach [.Name x p2] X.env = (false, eval (.Name x p2) X.env) :: starEach [] X.env := by rfl)
    (hpl : (backTo pos (starEach [.Name x p2] X.env)).any (·.1) = false := by rfl) : ME X C (.Call (.Name "isinstance" p1) [e, .Name x p2] [] pos) (sIsi (isX q) m) := by
  refine ⟨fun E W tk => ?_⟩
  have pT : PE (X.wish E) (.Name x p2) (fun σ H Q => Q (.ty T) H) := ⟨fun pins s σ H Q I q => ld_blt (E := (X.wish E).xe) I hgT hmT hv ⟨.ty T, H, I, rfl, q⟩ hn hdb⟩
  refine (pe_callB (X := X.wish E) (call_isX (X := X.wish E) (C := C) hK (c := .ty T) (cv := .type T) (fun u r => r) hq) hg hm rfl (pa_cons (h.pe E W tk) (pa_cons pT pa_nil hs2) hs) (by decide) (by decide) hs hpl).imp fun τ H Q q => ?_
  exact (isi_core q).mono fun v H1 ⟨d, k, r, e2, q2⟩ => ⟨v, d, k, rfl, r, e2, q2⟩
end
end TL

set_option Elab.async false
set_option linter.all false
set_option maxRecDepth 100000
set_option maxHeartbeats 4000000
/-! TL14: exceptions that are made and kept as values, with their texts; by keyword too. -/
namespace TL
section Raw
open PySem PySem.W PySem.Calls PyProof.Rows PySem.HandSPX PySem.Builtin
variable {prog : Program} {w : World} {M : Model} {A : Around} {E : Value → Shared → Prop} {R : Result → Shared → Prop} {h : Heap} {g : Array GenState} {d : Drawn} {t : Nat} {os : OsState}
variable {nm q : Str} {c N : Addr} {bs bm bmB : List Value} {hdct : Bool} {sn : List Str} {sub : List Value} {ab : Bool} {col : Option Bool} {dd : Option Addr} {k0 k1 k2 k3 k5 : Option Value} {B newId initId : String} {ws : List (Str × Value)} {vs : List Value} {fI : Addr}
/-- C(.., k = v): the check of __new__ -/
theorem kw_check_new (F : ExcBaseFacts B newId initId bmB) (same : ∀ T : String, bm.contains (.type T) = bmB.contains (.type T)) {Q : Unit → Shared → Prop}
    (at_ : h.get? c = some (excClassObj nm q c N bs bm hdct sn sub ab col dd k0 k1 k2 k3 k5 newId)) (ok : Q () ⟨h, g, d, t, os⟩) : wpAny M A (checkBuiltinCall newId ⟨.ref c :: vs, ws⟩) Q E ⟨h, g, d, t, os⟩ := by
  have has : (Value.ref c :: bm).contains (.type B) = true := by rw [List.contains_cons, same, F.hasB, Bool.or_true]
  have hs := F.noStar
  simp only [checkBuiltinCall, F.newKind, F.newSplit, F.newRow]
  repeat (first | refine wpAny_loadPart_at at_ ?_ | (refine wpAny_isSubtype_exc at_ ?_; rw [has]) | refine wpAny_staticBase_exc at_ ?_ | refine wpAny_madeBy_exc at_ ?_ | simp only [bne_self_eq_false, Bool.false_eq_true, if_false] | wp_step)
  exact ok
theorem kw_new (F : ExcBaseFacts B newId initId bmB) (same : ∀ T : String, bm.contains (.type T) = bmB.contains (.type T)) (at_ : h.get? c = some (excClassObj nm q c N bs bm hdct sn sub ab col dd k0 k1 k2 k3 k5 newId))
    (ok : R (.ok (.ret (.ref (h.objs.size + 1)))) ⟨(h.push (kdv_tup vs)).push (excO c h.objs.size), g, d, t, os⟩) (small : vs.length ≤ sizeLine) :
    codeAny (model prog w) A (.builtin newId ⟨.ref c :: vs, ws⟩) R ⟨h, g, d, t, os⟩ := by
  have fe := F.ends
  have has : (Value.ref c :: bm).contains (.type B) = true := by rw [List.contains_cons, same, F.hasB, Bool.or_true]
  have hasA : (Value.ref c :: bm).contains (.type "AttributeError") = false := by rw [List.contains_cons, same, F.noAttr]; rfl
  have hasN : (Value.ref c :: bm).contains (.type "NameError") = false := by rw [List.contains_cons, same, F.noName]; rfl
  refine codeAny_builtinAt F.entry ?_
  unfold Builtin.«BaseException.__new__»; refine PySem.wpAt_bind ?_
  show PySem.wpAt _ _ _ (stack >>= _) _ _ _
  refine PySem.wpAt_bind (PySem.wpAt_stack fun p below => PySem.wpAt_of_wpAny ?_); wp_walk
  refine PySem.wpAt_of_wpAny ?_; rw [F.owner]
  repeat (first | with_reducible refine wpAny_madeHere_exc F.canon at_ ?_ | with_reducible refine wpAny_loadPart_at at_ ?_ | (with_reducible refine wpAny_isSubtype_exc at_ ?_; first | rw [has] | rw [hasA] | rw [hasN]) | wp_step)
  show R _ _
  rw [Heap.size_push]; exact ok
theorem kw_type (F : ExcBaseFacts B newId initId bmB) (same : ∀ T : String, bm.contains (.type T) = bmB.contains (.type T)) {Q : Fin → Shared → Prop} (at_ : h.get? c = some (excClassObj nm q c N bs bm hdct sn sub ab col dd k0 k1 k2 k3 k5 newId))
    (hi : W.Looks (model prog w) h (typeLookup (.ref c) "__init__") (some (.ref fI))) (hb : ∀ self, W.Looks (model prog w) h (bindSpecial (.ref fI) self) (.ref fI, [self])) (small : vs.length ≤ sizeLine)
    (ok : codeAny (model prog w) A (.call (.ref fI) ⟨.ref (h.objs.size + 1) :: vs, ws⟩) (fun r s' => match r with | .ok (.ret v) => v = .none ∧ Q (.done (.ret (.ref (h.objs.size + 1)))) s' | .ok _ => False | .error e => E e s') ⟨(h.push (W.kdv_tup vs)).push (excO c h.objs.size), g, d, t, os⟩) :
    wpAny (model prog w) A (Builtin.«type.__call__» ⟨.ref c :: vs, ws⟩) Q E ⟨h, g, d, t, os⟩ := by
  repeat (first | with_reducible refine wpAny_loadPart_at at_ ?_ | with_reducible refine wpAny_madeBy_exc at_ ?_ | wp_step)
  refine codeAny_call_builtin_code (Code.quiet_builtin _ F.quiet) (kw_check_new F same at_ (kw_new F same at_ ?_ small))
  show wpAny _ _ _ _ _ _
  have keep : ∀ b o, h.get? b = some o → ((h.push (W.kdv_tup vs)).push (excO c h.objs.size)).get? b = some o := fun b o e => Heap.get?_push_of_some _ (Heap.get?_push_of_some _ e)
  have at2 := keep _ _ at_
  have new : ((h.push (W.kdv_tup vs)).push (excO c h.objs.size)).get? (h.objs.size + 1) = some (excO c h.objs.size) := by heap_get
  have self : (Value.ref c :: bm).contains (.ref c) = true := by simp
  have i2 := hi.keeps keep
  have b2 := (hb (.ref (h.objs.size + 1))).keeps keep
  unfold isInstance
  repeat (first | with_reducible refine wpAny_loadPart_at new ?_ | (with_reducible refine wpAny_isSubtype_exc at2 ?_; rw [self]) | wp_step)
  show wpAny _ _ (typeLookup (.ref c) _) _ _ _
  refine i2.at (wpAny_holding (wpAny_bind (b2.at ?_)))
  refine wpAny_bind (wpAny_call (codeAny_mono ok fun r s' z => ?_))
  rcases r with e | (v | _ | _ | _) <;> first | exact z | exact z.elim | skip
  obtain ⟨rfl, z⟩ := z
  first | exact wpAny_pure (wpAny_pure z) | (wp_walk; exact z)
theorem kw_check_type {Q : Unit → Shared → Prop} (at_ : h.get? c = some (excClassObj nm q c N bs bm hdct sn sub ab col dd k0 k1 k2 k3 k5 newId)) (ok : Q () ⟨h, g, d, t, os⟩) : wpAny M A (checkBuiltinCall "type.__call__" ⟨.ref c :: vs, ws⟩) Q E ⟨h, g, d, t, os⟩ := by
  have f3 := tc_sub
  have ty : (⟨h, g, d, t, os⟩ : Shared).TypeIs (.ref c) "type" := ⟨_, at_, rfl⟩
  simp only [checkBuiltinCall, tc_kind, tc_split]
  repeat (any_goals (first | assumption | with_reducible refine wpAny_loadPart_at at_ ?_ | with_reducible refine wpAny_onRaise ?_ | with_reducible refine wpAny_map ?_ | wp_step))
theorem kw_call (F : ExcBaseFacts B newId initId bmB) (same : ∀ T : String, bm.contains (.type T) = bmB.contains (.type T)) (at_ : h.get? c = some (excClassObj nm q c N bs bm hdct sn sub ab col dd k0 k1 k2 k3 k5 newId))
    (hi : W.Looks (model prog w) h (typeLookup (.ref c) "__init__") (some (.ref fI))) (hb : ∀ self, W.Looks (model prog w) h (bindSpecial (.ref fI) self) (.ref fI, [self])) (small : vs.length ≤ sizeLine)
    (ok : codeAny (model prog w) (A.under (.builtin "type.__call__" ⟨.ref c :: vs, ws⟩)) (.call (.ref fI) ⟨.ref (h.objs.size + 1) :: vs, ws⟩) (W.InitBack (h.objs.size + 1) R) ⟨(h.push (W.kdv_tup vs)).push (excO c h.objs.size), g, d, t, os⟩) :
    codeAny (model prog w) A (.call (.ref c) ⟨vs, ws⟩) R ⟨h, g, d, t, os⟩ := by
  have f1 := tc_lookup
  have f2 := tc_bind (.ref c)
  have ty : (⟨h, g, d, t, os⟩ : Shared).TypeIs (.ref c) "type" := ⟨_, at_, rfl⟩
  refine codeAny_of_tree ?_
  show wpAny _ _ (callAny (.ref c) _) _ _ _
  repeat (any_goals (first | assumption | with_reducible refine wpAny_loadPart_at at_ ?_ | wp_step))
  refine ⟨rfl, ?_⟩
  refine codeAny_call_builtin_at (Code.quiet_builtin _ (by decide +kernel)) entry_typeCall (kw_check_type at_ (kw_type F same at_ hi hb small (codeAny_mono ok fun r s' z => ?_)))
  rcases r with e | (v | _ | _ | _) <;> exact z
/-- the base's __init__: the args are laid anew -/
theorem init_tup (F : ExcBaseFacts B newId initId bmB) (same : ∀ T : String, bm.contains (.type T) = bmB.contains (.type T)) {e t0 : Addr}
    (at_ : h.get? c = some (excClassObj nm q c N bs bm hdct sn sub ab col dd k0 k1 k2 k3 k5 newId)) (he : h.get? e = some (excO c t0)) (small : vs.length ≤ sizeLine)
    (ok : ∀ h' t1, (∀ b o, b ≠ e → h.get? b = some o → h'.get? b = some o) → h'.get? e = some (excO c t1) → h.objs.size ≤ t1 → IsTup h' t1 vs.toArray → R (.ok (.ret .none)) ⟨h', g, d, t, os⟩) :
    codeAny (model prog w) A (.call (.builtin initId) ⟨.ref e :: vs, []⟩) R ⟨h, g, d, t, os⟩ := by
  refine codeAny_call_builtin F.init.plain F.initEntry (check_init_own F same at_ he rfl ?_)
  wp_walk
  have ne : h.objs.size ≠ e := (Nat.ne_of_lt (Heap.lt_size he)).symm
  refine ok _ h.objs.size (fun b o hb ho => ?_) ?_ (Nat.le_refl _) ?_
  · rw [Heap.get?_update_other _ _ (Ne.symm hb)]; exact Heap.get?_push_of_some _ ho
  · rw [Heap.get?_update_self _ (Heap.get?_push_of_some _ he) rfl]; rfl
  · obtain ⟨o, q1, q2, n, q3⟩ := IsTup.new h vs.toArray
    exact ⟨o, by rw [Heap.get?_update_other _ _ (Ne.symm ne)]; exact q1, q2, n, q3⟩
end Raw
end TL

set_option Elab.async false
set_option linter.all false
set_option maxRecDepth 100000
set_option maxHeartbeats 4000000
/-! TL15: exceptions that are made and kept as values: their objects, over the heap that is known. -/
namespace TL
open PySem PySem.Spec PyProof.Rows L2
theorem exoA_own {e c x t1 : Addr} {d : Option Addr} : exoA e c t1 d ≠ .own x := fun z => by
  have z' : HO.ext _ = HO.own x := z; cases z'
theorem exoA_tup {e c t1 : Addr} {d : Option Addr} {xs : List V} : exoA e c t1 d ≠ .tup xs := fun z => by
  have z' : HO.ext _ = HO.tup xs := z; cases z'
theorem exoA_frz {e c t1 : Addr} {d : Option Addr} {o : Obj} {u : HO} : exoA e c t1 d ≠ .frz o u := fun z => by
  have z' : HO.ext _ = HO.frz o u := z; cases z'
theorem exoA_tbl {e c t1 : Addr} {d : Option Addr} {ps : Array Value} : exoA e c t1 d ≠ .tbl ps := fun z => by
  have z' : HO.ext _ = HO.tbl ps := z; cases z'
theorem exoA_ok {P : Program} {w : World} {H : Hp} {h : Heap} {e c t1 : Addr} {d : Option Addr} (he : h.get? e = some ({ cls := .ref c, dict := d, data := .fields #[.ref t1, .none, .none, .none, .bool false, .none] } : Obj)) : ObjOk P w H h e (exoA e c t1 d) :=
  ⟨he, ⟨_, he⟩, fun h1 h2 z k => k _ z⟩
theorem exoA_at {P : Program} {w : World} {H : Hp} {h : Heap} {e c t1 : Addr} {d : Option Addr} (hok : HOk P w H h) (he : H e = some (exoA e c t1 d)) : h.get? e = some ({ cls := .ref c, dict := d, data := .fields #[.ref t1, .none, .none, .none, .bool false, .none] } : Obj) := by
  obtain ⟨x, _, _⟩ : ObjOk P w H h e (exoA e c t1 d) := hok e _ he
  exact x
section
variable {X : Cx} {pins : List (Addr × Obj)} {τ : L2.St} {H : Hp} {s : Shared} {a c t1 : Addr} {f m : Str} {y : V} {u : Value} {Q : Unit → Shared → Prop} {E : Value → Shared → Prop} {A : Around} {B newId initId : String} {tl : List Value}
/-- one thing that stands is written over, one thing is new -/
theorem inv_two {od o2 : HO} {hp h' : Heap} {g : Array GenState} {dr : Drawn} {t tk' : Nat} {os : OsState} {dx : Addr} (I : Inv X pins τ H ⟨hp, g, dr, t, os⟩) {o1 : HO} (e : H a = some o1) (n1 : ∀ x, o1 ≠ .own x) (n2 : ∀ xs, o1 ≠ .tup xs) (n3 : ∀ o u, o1 ≠ .frz o u) (n4 : ∀ ps, o1 ≠ .tbl ps)
    (k : ∀ b o, b ≠ a → hp.get? b = some o → h'.get? b = some o) (dn : hp.objs.size ≤ dx) (hx : ∃ o, h'.get? a = some o) (ka : ObjOk X.prog X.w (upd (upd H dx od) a o2) h' a o2) (kd : ObjOk X.prog X.w (upd (upd H dx od) a o2) h' dx od) : Inv X pins τ (upd (upd H dx od) a o2) ⟨h', g, dr, tk', os⟩ := by
  have fresh : H dx = none := I.hok.fresh dn
  have ndx : ∀ {b : Addr} {o : Obj}, hp.get? b = some o → b ≠ dx := fun {b o} z => Nat.ne_of_lt (Nat.lt_of_lt_of_le (Heap.lt_size z) dn)
  have nea : ∀ {b : Addr}, H b = none → b ≠ a := fun {b} n z => by rw [z, e] at n; cases n
  have U : Un X.fs [] H (upd (upd H dx od) a o2) hp h' := by
    refine ⟨fun b o z n _ _ => k b o (nea n) z, fun b o z n _ _ => ⟨o.slots, k b o (nea n) z⟩, fun b o z n _ => ?_, fun b o z _ => ?_, fun b xs z => ?_, fun b o v z => ?_, fun b ps z => ⟨#[], ?_⟩⟩
    · rw [upd_ne (nea n), upd_ne (ndx z)]; exact n
    · by_cases hb : b = a
      · rw [hb]; exact hx
      · exact ⟨o, k b o hb z⟩
    · rw [upd_ne (at_ne e z (n2 _)), upd_ne (ne_of_none z fresh)]; exact z
    · rw [upd_ne (at_ne e z (n3 _ _)), upd_ne (ne_of_none z fresh)]; exact z
    · rw [upd_ne (at_ne e z (n4 _)), upd_ne (ne_of_none z fresh), z]; simp
  refine I.un (t' := tk') U fun b o z => ?_
  by_cases hb : b = a
  · subst hb
    rw [upd_same] at z; cases z
    exact ka
  · rw [upd_ne hb] at z
    by_cases hd : b = dx
    · subst hd
      rw [upd_same] at z; cases z
      exact kd
    · rw [upd_ne hd] at z
      refine (I.hok b o z).stay (fun c' v hc w => k c' v ?_ w) (fun c' hc => ?_) (fun c' xs hc => ?_)
      · rcases hc with hc | hc
        · rw [hc]; exact hb
        · exact at_ne e hc (n1 _)
      · rw [upd_ne (at_ne e hc (n1 _)), upd_ne (ne_of_none hc fresh)]; exact hc
      · rw [upd_ne (at_ne e hc (n2 _)), upd_ne (ne_of_none hc fresh)]; exact hc
theorem st_err (T : ClsE X.K c B newId initId tl) (I : Inv X pins τ H s) (e : H a = some (exoA a c t1 none)) (hno : PySem.W.findIn X.K (.ref c) f = some none) (ry : RelV y u)
    (h : ∀ dx s', H dx = none → dx ≠ a → Inv X pins τ (upd (upd H dx (exd dx [(f, y)])) a (exoA a c t1 (some dx))) s' → Q () s') : wpAny (model X.prog X.w) A (setAttr (.ref a) f u) Q E s := by
  obtain ⟨nm, q, N, bs, bm, sn, sub, ab, col, dd, k0, k1, k2, k3, k5, hC, hbm⟩ := T.cls
  have hcl : PySem.W.clsIn X.K c = some { name := nm, bases := bs, mro := .ref c :: bm, ns := N, qualname := q, hasDict := true, slotNames := sn, subclasses := sub, abstract := ab, collection := col, hasDel := false } := by unfold PySem.W.clsIn; rw [hC] <;> rfl
  have ho := exoA_at I.hok e
  obtain ⟨hp, g, d, t, os⟩ := s
  refine PySem.W.set_plain I.kIn (ox := { cls := .ref c, dict := none, data := .fields #[.ref t1, .none, .none, .none, .bool false, .none] }) (od := none) ⟨ho, rfl, rfl, trivial⟩ T.sa ?_
  refine set_first T.bk I.kIn ho hcl (show refsT tl (.ref c :: bm) = true from hbm) rfl hno (fun h' tk' dx k dn dne hx hn => ?_)
  exact h dx _ (I.hok.fresh dn) dne (inv_two I e (fun _ => exoA_own) (fun _ => exoA_tup) (fun _ _ => exoA_frz) (fun _ => exoA_tbl) k dn ⟨_, hx⟩ (exoA_ok hx) (exd_ok hn (relO_put (fs := []) ry fun g => True.intro)))
/-- Base.__init__(self, text) as the built-in does it -/
theorem init_err {tk : Tok} {Q : Value → Shared → Prop} (T : ClsE X.K c B newId initId tl) (I : Inv X pins τ H s) (e : H a = some (exo a c none)) (h : ∀ t1 s', H t1 = none → t1 ≠ a → Inv X pins τ (upd (upd H t1 (.tup [.str m])) a (exoA a c t1 none)) s' → Q .none s') :
    wpAny (model X.prog X.w) A (call (.builtin initId) [.ref a, .str m tk]) Q E s := by
  obtain ⟨nm, q, N, bs, bm, sn, sub, ab, col, dd, k0, k1, k2, k3, k5, hC, hbm⟩ := T.cls
  obtain ⟨t0, ho⟩ := exo_at I.hok e
  obtain ⟨hp, g, d, t, os⟩ := s
  refine wpAny_call (init_tup T.bk.bf (fun n => refsT_has n bm hbm) (I.kIn _ _ hC) ho (by rw [sizeLine_eq]; simp) fun h' t2 k hx tn tup => ?_)
  have ne : t2 ≠ a := (Nat.ne_of_lt (Nat.lt_of_lt_of_le (Heap.lt_size ho) tn)).symm
  refine h t2 _ (I.hok.fresh tn) ne (inv_two (tk' := t) I e (fun _ => exo_own) (fun _ => exo_tup) (fun _ _ => exo_frz) (fun _ => exo_tbl) k tn ⟨_, hx⟩ (exoA_ok hx) ?_)
  exact (show ObjOk X.prog X.w _ h' t2 (.tup [.str m]) from ⟨by rw [sizeLine_eq]; simp, [.str m tk], .cons ⟨tk, rfl⟩ .nil, tup⟩)
end
section
variable {X : Cx} {o e : Expr} {es : List Expr} {to te : TE} {ta : TA} {f m : Str} {p p' p1 p2 pos : Pos} {B newId initId : String} {tl : List Value}
def tIniE (K : PySem.W.Frag) (B newId initId : String) (tl : List Value) (m : Str) (ta : TA) : TE := fun σ H Q => ta σ H fun vs H1 => ∃ (a c : Addr), vs = [.ref a, .str m] ∧ ClsE K c B newId initId tl ∧ H1 a = some (exo a c none) ∧ ∀ t1, H1 t1 = none → t1 ≠ a → Q .non (upd (upd H1 t1 (.tup [.str m])) a (exoA a c t1 none))
theorem pe_iniE {pl : Sem Bool} {x : Str} (hB : BaseAt X x p1 initId) (ha : PA X (e :: es) ta)
    (hc : eval (.Call (.Attribute (.Name x p1) "__init__" p2) (e :: es) [] pos) X.env = (do
      let ov ← eval (.Name x p1) X.env
      standAt p2.atName
      let (f, first) ← holding [ov] (getMethod ov "__init__" pl)
      callWith pos f first (backTo pos (starEach (e :: es) X.env)) (backToKw pos (keywordEach [] X.env))) := by rfl)
    (he : starEach (e :: es) X.env = (false, eval e X.env) :: starEach es X.env := by rfl) (hpl : (backTo pos (starEach es X.env)).any (·.1) = false := by rfl) :
    PE X (.Call (.Attribute (.Name x p1) "__init__" p2) (e :: es) [] pos) (tIniE X.K B newId initId tl m ta) := by
  refine ⟨fun pins s σ H Q I h => ?_⟩
  refine PySem.W.methodCall_KW (hB pins σ H s pl X.xe _ I fun s1 I1 => ?_) hc
  show wpAny _ _ (callWith pos (Value.builtin initId) [] (backTo pos (starEach (e :: es) X.env)) []) _ _ _
  refine PyProof.Rows.callWith_method1 (thn (ha.run pos pins _ σ H _ I1 h) fun us s2 ⟨vs, H1, I2, r1, a, c, ev, T, ea, q⟩ => ?_) he hpl
  subst ev
  obtain ⟨u1, u2, rfl, ra, t, rfl⟩ := vals2 r1
  obtain rfl : u1 = Value.ref a := ra
  exact init_err T I2 ea fun t1 s' n ne J => ⟨.non, _, J, rfl, q t1 n ne⟩
def tFstE (K : PySem.W.Frag) (B newId initId : String) (tl : List Value) (f : Str) (to te : TE) : TS := fun D σ H => te σ H fun y H1 => to σ H1 fun x H2 => ∃ a c t1 : Addr, x = .ref a ∧ ClsE K c B newId initId tl ∧ PySem.W.findIn K (.ref c) f = some none ∧
  H2 a = some (exoA a c t1 none) ∧ ∀ dx, H2 dx = none → dx ≠ a → D.nx σ (upd (upd H2 dx (exd dx [(f, y)])) a (exoA a c t1 (some dx)))
theorem ps_fstE (ho : PE X o to) (he : PE X e te) (hs : swapsWith e (some (.Attribute o f p')) pos.line X.env = pure false := by rfl) : PS X (.Assign [.Attribute o f p'] e pos) (tFstE X.K B newId initId tl f to te) := by
  refine ⟨fun pins s σ H D I h => ?_⟩
  refine plainObj_wpAny_Assign_Attribute (thn (he.run pins s σ H _ I h) fun v s1 ⟨y, H1, I1, r1, q1⟩ => thn (ho.run pins s1 σ H1 _ I1 q1) fun u s2 ⟨x, H2, I2, r2, a, c, t1, ex, T, hno, ea, q⟩ => ?_) hs
  subst ex
  obtain rfl : u = Value.ref a := r2
  exact st_err T I2 ea hno r1 fun dx s' n ne J => ⟨σ, _, J, q dx n ne⟩
/-- the heap behind __init__ -/
def madeH (H : Hp) (a c t1 dx : Addr) (f m : Str) (y : V) : Hp := upd (upd (upd H t1 (.tup [.str m])) dx (exd dx [(f, y)])) a (exoA a c t1 (some dx))
/-- what __init__(self, value) promises -/
def spE (c : Addr) (f m : Str) : Sp := fun vs H Q _ => ∃ (a : Addr) (y : V), vs = [.ref a, y] ∧ H a = some (exo a c none) ∧ ∀ t1 dx, H t1 = none → t1 ≠ a → H dx = none → dx ≠ a → dx ≠ t1 → Q .non (madeH H a c t1 dx f m y)
end
/-- def __init__(self, x): Base.__init__(self, text); self.f = x -/
theorem init_fn {P : Program} {w : World} {K : PySem.W.Frag} {mg : Str → Option Value} {base : Heap} {fI c : Addr} {qual pn f m bn : Str} {params : Arguments} {scope : Scope} {dvs : List V} {fd : FuncData} {B newId initId : String} {tl : List Value} {p1 p2 p3 p4 p5 p6 p7 p8 p9 p10 : Pos} {j : Nat}
    (F : FunD K "__init__" qual params [.Expr (.Call (.Attribute (.Name bn p1) "__init__" p2) [.Name "self" p3, .Constant (.str m) j p4] [] p5) p6, .Assign [.Attribute (.Name "self" p7) f p8] (.Name pn p9) p10] scope dvs [] fI fd)
    (S : FnScope ["self", pn] ["self", pn] scope) (hpd : (pn == ("__debug__" : Str)) = false) (hpc : (pn == ("__classdict__" : Str)) = false) (T : ClsE K c B newId initId tl) (hno : PySem.W.findIn K (.ref c) f = some none)
    (hB : ∀ (cdv : Value) (A : Around) (outer : List Env) (s : Shared) (H : Hp) (E : XK), BaseAt (cxOf CX0 P w K mg base ["self", pn] qual scope fI cdv A outer s H E) bn p1 initId)
    (hc : ∀ (cdv : Value) (n : Nat), ∃ pl : Sem Bool, eval (.Call (.Attribute (.Name bn p1) "__init__" p2) [.Name "self" p3, .Constant (.str m) j p4] [] p5) (envOfC qual scope n fI cdv) = (do
      let ov ← eval (.Name bn p1) (envOfC qual scope n fI cdv)
      standAt p2.atName
      let (f, first) ← holding [ov] (getMethod ov "__init__" pl)
      callWith p5 f first (backTo p5 (starEach [.Name "self" p3, .Constant (.str m) j p4] (envOfC qual scope n fI cdv))) (backToKw p5 (keywordEach [] (envOfC qual scope n fI cdv)))))
    (hs1 : ∀ (cdv : Value) (n : Nat), swapsWith (.Call (.Attribute (.Name bn p1) "__init__" p2) [.Name "self" p3, .Constant (.str m) j p4] [] p5) none p6.line (envOfC qual scope n fI cdv) = pure false)
    (hs2 : ∀ (cdv : Value) (n : Nat), swapsWith (.Name pn p9) (some (.Attribute (.Name "self" p7) f p8)) p10.line (envOfC qual scope n fI cdv) = pure false) : FnOk P w K mg base CX0 1 fI fd ["self", pn] (spE c f m) := by
  have vis : ∀ x : Str, x ∈ (["self", pn] : List Str) → Vis scope x := fun x hx => (S.par x hx).elim .inl fun z => .inr (.inl z)
  refine F.ok S (fun vs H Q E ⟨a, y, e, _⟩ => by rw [e]; rfl) fun cdv A outer s H vs Q E hr ⟨a, y, e, ha, q⟩ => ?_
  subst e
  obtain ⟨pl, ec⟩ := hc cdv s.heap.objs.size
  refine ⟨_, pss_cons (ps_expr (pe_iniE (B := B) (newId := newId) (initId := initId) (tl := tl) (m := m) (hB cdv A outer s H E) (pa_cons (pv 0 rfl (vis _ (by simp)) (by decide) (by decide)) (pa_cons pe_str pa_nil)) ec) (hs1 cdv _))
    (pss_one (ps_fstE (B := B) (newId := newId) (initId := initId) (tl := tl) (pv 0 rfl (vis _ (by simp)) (by decide) (by decide)) (pv 1 rfl (vis _ (by simp)) hpd hpc) (hs2 cdv _))), ?_⟩
  refine ⟨.ref a, rfl, a, c, rfl, T, ha, fun t1 n1 ne1 => ?_⟩
  have n2 : t1 ≠ a := ne1
  refine ⟨y, rfl, .ref a, rfl, a, c, t1, rfl, T, hno, upd_same, fun dx nd ned => ?_⟩
  have ndt : dx ≠ t1 := fun z => by
    rw [z, upd_ne n2, upd_same] at nd; cases nd
  have nd0 : H dx = none := by rw [upd_ne ned, upd_ne ndt] at nd; exact nd
  have eH : upd (upd (upd (upd H t1 (.tup [.str m])) a (exoA a c t1 none)) dx (exd dx [(f, y)])) a (exoA a c t1 (some dx)) = madeH H a c t1 dx f m y := by
    unfold madeH
    funext b
    by_cases hb : b = a
    · rw [hb, upd_same, upd_same]
    · rw [upd_ne hb, upd_ne hb]
      by_cases hd : b = dx
      · rw [hd, upd_same, upd_same]
      · rw [upd_ne hd, upd_ne hd, upd_ne hb]
  rw [eH]
  exact q t1 dx n1 n2 nd0 ned ndt
end TL

set_option Elab.async false
set_option linter.all false
set_option maxRecDepth 100000
set_option maxHeartbeats 4000000
/-! TL16: C(x), C(k = x), C() as values; e.f, str(e) of them. -/
namespace TL
open PySem PySem.Spec PyProof.Rows L2
structure ClsO (P : Program) (w : World) (K : PySem.W.Frag) (mg : Str → Option Value) (base : Heap) (c fI : Addr) (f m : Str) (B newId initId : String) (tl : List Value) (fd : FuncData) (ps : List Str) : Prop where
  T : ClsE K c B newId initId tl
  iC : PySem.W.findIn K (.ref c) "__init__" = some (some (.ref fI))
  tI : PySem.W.typeIn K (.ref fI) = some (.type "function")
  fn : FnOk P w K mg base CX0 1 fI fd ps (spE c f m)
section
variable {X : Cx} {pins : List (Addr × Obj)} {τ : L2.St} {H : Hp} {s : Shared} {c fI : Addr} {f m : Str} {B newId initId : String} {tl : List Value} {fd : FuncData} {ps : List Str} {us : List Value} {ws : List (Str × Value)} {uy : Value} {y : V}
theorem run_err {Q : VK} (Z : ClsO X.prog X.w X.K X.mg X.base c fI f m B newId initId tl fd ps) (hr : Room 3 X.A) (I : Inv X pins τ H s) (ry : RelV y uy) (hl0 : us.length ≤ 1000) (hb : ∀ (s' : Shared) (self : Addr), X.K.In s'.heap → BindsTo s' fd ⟨.ref self :: us, ws⟩ (ps.zip [.ref self, uy]))
    (q : ∀ a t1 dx, H a = none → H t1 = none → H dx = none → t1 ≠ a → dx ≠ a → dx ≠ t1 → Q (.ref a) (madeH H a c t1 dx f m y)) : wpAny (model X.prog X.w) X.A (call (.ref c) us ws) (EP X pins τ Q) X.xe s := by
  obtain ⟨nm, qn, N, bs', bm, sn, sub, ab, col, dd, k0, k1, k2, k3, k5, hC, hbm⟩ := Z.T.cls
  obtain ⟨hp, g, dr, tk, os⟩ := s
  have hsz : hp.objs.size ≤ hp.objs.size + 1 := Nat.le_succ _
  have hn : H (hp.objs.size + 1) = none := I.hok.fresh hsz
  have kk : ∀ b o, hp.get? b = some o → ((hp.push (PySem.W.kdv_tup us)).push (PySem.HandSPX.excO c hp.objs.size)).get? b = some o := fun b o z => Heap.get?_push_of_some _ (Heap.get?_push_of_some _ z)
  have hget : ((hp.push (PySem.W.kdv_tup us)).push (PySem.HandSPX.excO c hp.objs.size)).get? (hp.objs.size + 1) = some (PySem.HandSPX.excO c hp.objs.size) := by heap_get
  have I2 : Inv X pins τ (upd H (hp.objs.size + 1) (exo (hp.objs.size + 1) c none)) ⟨(hp.push (PySem.W.kdv_tup us)).push (PySem.HandSPX.excO c hp.objs.size), g, dr, tk, os⟩ :=
    I.laid (t' := tk) (a := hp.objs.size + 1) (o := exo (hp.objs.size + 1) c none) (h' := (hp.push (PySem.W.kdv_tup us)).push (PySem.HandSPX.excO c hp.objs.size)) kk hsz (exo_ok hget)
  have r2 : Vals [V.ref (hp.objs.size + 1), y] [Value.ref (hp.objs.size + 1), uy] := .cons rfl (.cons ry .nil)
  have sp : spE c f m [V.ref (hp.objs.size + 1), y] (upd H (hp.objs.size + 1) (exo (hp.objs.size + 1) c none)) (fun v H2 => v = .non ∧ Q (.ref (hp.objs.size + 1)) H2) E0 := by
    refine ⟨_, y, rfl, upd_same, fun t1 dx n1 ne1 nd ned ndt => ⟨rfl, ?_⟩⟩
    rw [upd_ne ne1] at n1
    rw [upd_ne ned] at nd
    have eH : madeH (upd H (hp.objs.size + 1) (exo (hp.objs.size + 1) c none)) (hp.objs.size + 1) c t1 dx f m y = madeH H (hp.objs.size + 1) c t1 dx f m y := by
      unfold madeH
      funext b
      by_cases ha : b = hp.objs.size + 1
      · rw [ha, upd_same, upd_same]
      · rw [upd_ne ha, upd_ne ha]
        by_cases hd : b = dx
        · rw [hd, upd_same, upd_same]
        · rw [upd_ne hd, upd_ne hd]
          by_cases ht : b = t1
          · rw [ht, upd_same, upd_same]
          · rw [upd_ne ht, upd_ne ht, upd_ne ha]
    rw [eH]
    exact q _ t1 dx hn n1 nd ne1 ned ndt
  have hus : us.length ≤ sizeLine := by rw [sizeLine_eq]; omega
  refine wpAny_call (kw_call Z.T.bk.bf (fun n => refsT_has n bm hbm) (I.kIn _ _ hC) (PySem.W.looks_findIn I.kIn Z.iC) (fun self => PySem.W.bind_fn I.kIn self Z.tI) hus
    (codeAny_mono (Z.fn.run _ X.stack _ _ ⟨Value.ref (hp.objs.size + 1) :: us, ws⟩ [Value.ref (hp.objs.size + 1), uy] _ _ E0 ((hr.make c us ws).mono (by decide)) (I2.env0.make c us ws) (hb _ _ I2.kIn) r2 sp) fun r' s' hq' => ?_))
  cases r' with
  | error er => exact (show False from hq').elim
  | ok fl =>
    cases fl with
    | ret u =>
      obtain ⟨v, H', I3, rv, ev, q3⟩ := I2.after hq'
      subst ev
      exact ⟨rv, ⟨V.ref (hp.objs.size + 1), H', I3, rfl, q3⟩⟩
    | next => exact False.elim hq'
    | brk => exact False.elim hq'
    | cont => exact False.elim hq'
end
section
variable {X : Cx} {C : Cn} {fI : Addr} {f msg : Str} {B newId initId : String} {tl : List Value} {fd : FuncData} {ps : List Str} {e : Expr} {x : Str} {p pos kpos : Pos} {k n : Nat} {m : SS → O D} {H : Hp}
theorem err_new {y : V} {d : D} {a t1 dx : Addr} (hcf : C.cf k = f) (hcm : C.cm k = msg) (na : H a = none) (nt : H t1 = none) (nd : H dx = none) (h1 : t1 ≠ a) (h2 : dx ≠ a) (h3 : dx ≠ t1) (ry : Rp C H d y) :
    Same H (madeH H a (C.ca k) t1 dx f msg y) ∧ Rp C (madeH H a (C.ca k) t1 dx f msg y) (.err k d) (.ref a) := by
  have sm : Same H (madeH H a (C.ca k) t1 dx f msg y) := fun b u e => by
    unfold madeH
    rw [upd_ne (ne_of_none e na), upd_ne (ne_of_none e nd), upd_ne (ne_of_none e nt)]; exact e
  refine ⟨sm, ?_⟩
  simp only [Rp]
  refine ⟨a, dx, t1, y, [(f, y)], rfl, upd_same, ?_, ?_, ?_, ry.fx (.of_same sm)⟩
  · unfold madeH; rw [upd_ne h2, upd_same]
  · unfold madeH; rw [upd_ne h1, upd_ne (Ne.symm h3), upd_same, hcm]
  · rw [hcf]; simp [List.lookup]
def EN (C : Cn) (k : Nat) (τ : L2.St) (Q : VK) : List V → Hp → Prop := fun vs H1 => ∃ y d, vs = [y] ∧ Rp C H1 d y ∧ ∃ G σ, SR C G H1 σ τ ∧ ∀ v H', Rp C H' (.err k d) v → SR C G H' σ τ → Fx H1 H' → Q v H'
def sErr (k : Nat) (m : SS → O D) : SS → O D := fun σ => (m σ).bind fun d σ1 => .ok (.err k d) σ1
/-- C(e) -/
theorem me_err (Z : ClsO X.prog X.w X.K X.mg X.base (C.ca k) fI f msg B newId initId tl fd ps) (hr : TRoom n X.A) (hcf : C.cf k = f) (hcm : C.cm k = msg) (hg : Gl X x) (hm : X.mg x = some (.ref (C.ca k))) (hb : Binds X.K fd ps []) (hps : ps.length = 2) (ha : ME X C e m) (hdb : (x == ("__debug__" : Str)) = false := by decide)
    (he : starEach [e] X.env = (false, eval e X.env) :: starEach [] X.env := by rfl) (hpl : (backTo pos (starEach [] X.env)).any (·.1) = false := by rfl) : ME X C (.Call (.Name x p) [e] [] pos) (sErr k m) := by
  refine ⟨fun E W tk => ⟨fun pins s τ H Q I h => ?_⟩⟩
  refine wpAny_Call_Name_kw (ld_glob I hg hm ?_ hdb)
  have go := (pa_cons (ha.pe E W tk) pa_nil he).run pos pins s τ H (EN C k τ Q) I ((tG_bind (R := fun _ => Rp C) h).mono fun y H1 ⟨d, r1, f1, G, σ, sr, p⟩ => ⟨y, d, rfl, r1, G, σ, sr, p⟩)
  refine PySem.W.callWith_K (h₀ := X.base) I.ok.mod.kin Z.T.kC (thn go fun us s1 ⟨vs, H1, I1, r1, y, d, ev, ry, G, σ, sr, q⟩ => ⟨I1.kIn, ?_⟩) he hpl
  subst ev
  obtain ⟨u, rfl, ru⟩ := vals1 r1
  refine run_err (X := X.wish E) Z (hr.room.mono (by decide)) I1 ru (by simp) (fun s' self KI => hb s' [.ref self, u] KI (by rw [hps]; rfl)) fun a t1 dx na nt nd h1 h2 h3 => ?_
  obtain ⟨sm, rx⟩ := err_new (C := C) hcf hcm na nt nd h1 h2 h3 ry
  exact q _ _ rx (sr.same sm) (.of_same sm)
/-- C(f = e) -/
theorem me_errK {ks : List Str} {nm : Option Str} (Z : ClsO X.prog X.w X.K X.mg X.base (C.ca k) fI f msg B newId initId tl fd ps) (hr : TRoom n X.A) (hcf : C.cf k = f) (hcm : C.cm k = msg) (hg : Gl X x) (hm : X.mg x = some (.ref (C.ca k))) (hb : ∀ (s : Shared) (self u : Value), X.K.In s.heap → BindsTo s fd ⟨[self], ks.zip [u]⟩ (ps.zip [self, u])) (ha : ME X C e m)
    (hall : (backToKw pos (keywordEach [⟨nm, e, kpos⟩] X.env)).all (·.1.isSome) = true := by rfl) (hks : (backToKw pos (keywordEach [⟨nm, e, kpos⟩] X.env)).filterMap (·.1) = ks := by rfl) (hdb : (x == ("__debug__" : Str)) = false := by decide)
    (hpl : ((backTo pos (starEach [] X.env)).any (·.1) || (backToKw pos (keywordEach [⟨nm, e, kpos⟩] X.env)).any (·.1.isNone)) = false := by rfl) : ME X C (.Call (.Name x p) [] [⟨nm, e, kpos⟩] pos) (sErr k m) := by
  refine ⟨fun E W tk => ⟨fun pins s τ H Q I h => ?_⟩⟩
  refine wpAny_Call_Name_kw (ld_glob I hg hm ?_ hdb)
  refine PySem.W.callWith_KW0 (h₀ := X.base) I.ok.mod.kin Z.T.kC hall ?_ hpl
  have go := (pk_cons (nm := nm) (kpos := kpos) (ha.pe E W tk) pk_nil).run pos pins s τ H (EN C k τ Q) I ((tG_bind (R := fun _ => Rp C) h).mono fun y H1 ⟨d, r1, f1, G, σ, sr, p⟩ => ⟨y, d, rfl, r1, G, σ, sr, p⟩)
  refine thn go fun us s1 ⟨vs, H1, I1, r1, y, d, ev, ry, G, σ, sr, q⟩ => ⟨I1.kIn, ?_⟩
  subst ev
  obtain ⟨u, rfl, ru⟩ := vals1 r1
  have hks' : (backToKw pos (keywordEach [⟨nm, e, kpos⟩] (X.wish E).env)).filterMap (·.1) = ks := hks
  rw [hks']
  refine run_err (X := X.wish E) (us := []) Z (hr.room.mono (by decide)) I1 ru (by simp) (fun s' self KI => hb s' (.ref self) u KI) fun a t1 dx na nt nd h1 h2 h3 => ?_
  obtain ⟨sm, rx⟩ := err_new (C := C) hcf hcm na nt nd h1 h2 h3 ry
  exact q _ _ rx (sr.same sm) (.of_same sm)
/-- C() -/
theorem me_err0 {uy : Value} {y : V} {d : D} (Z : ClsO X.prog X.w X.K X.mg X.base (C.ca k) fI f msg B newId initId tl fd ps) (hr : TRoom n X.A) (hcf : C.cf k = f) (hcm : C.cm k = msg) (hg : Gl X x) (hm : X.mg x = some (.ref (C.ca k))) (hb : Binds X.K fd ps [uy]) (hps : ps.length = 2) (ru : RelV y uy) (ry : ∀ H, Rp C H d y) (hdb : (x == ("__debug__" : Str)) = false := by decide) :
    ME X C (.Call (.Name x p) [] [] pos) (sErr k (sC d)) := by
  refine ⟨fun E W tk => ⟨fun pins s τ H Q I h => ?_⟩⟩
  refine wpAny_Call_Name_kw (ld_glob I hg hm ?_ hdb)
  obtain ⟨G, σ, sr, q⟩ := h
  refine PySem.W.callWith_K0 I.kIn Z.T.kC (run_err (X := X.wish E) (us := []) Z (hr.room.mono (by decide)) I ru (by simp) (fun s' self KI => hb s' [.ref self] KI (by rw [hps]; rfl)) fun a t1 dx na nt nd h1 h2 h3 => ?_)
  obtain ⟨sm, rx⟩ := err_new (C := C) hcf hcm na nt nd h1 h2 h3 (ry H)
  exact q _ _ rx (sr.same sm) (.of_same sm)
/-- e.f -/
def sFldE (fs : Nat → Bool) (m : SS → O Hd) : SS → O D := fun σ => (m σ).bind fun h σ1 => match res σ1 h with
  | some (.err c d) => if fs c then .ok d σ1 else .bad
  | _ => .bad
theorem me_fldE {m : SS → O Hd} {n : Str} {fs : Nat → Bool} (hK : X.K = C.K) (hf : ∀ c, fs c = true → C.cf c = n ∧ XfC C.K (C.ca c) ∧ PySem.W.findIn C.K (.ref (C.ca c)) n = some none) (h : MH X C e m) (hb : attributeBase e n X.env (eval e X.env) = eval e X.env := by rfl) : ME X C (.Attribute e n pos) (sFldE fs m) := by
  refine ⟨fun E W tk => ⟨fun pins s τ H Q I q => ?_⟩⟩
  refine attr_of (env := X.env) hb ?_
  refine thn ((h.pe E W tk).run pins s τ H _ I (tG_bind (R := RH C) q)) fun u s1 ⟨v, H1, I1, ru, h1, r1, f1, G, σ, sr, p⟩ => ?_
  dsimp only at p
  split at p
  · rename_i c d ed
    split at p
    · rename_i hc
      obtain ⟨ecf, xf, hno⟩ := hf c hc
      have rb : Rp C H1 (.err c d) v := sr.res r1 ed
      simp only [Rp] at rb
      obtain ⟨a, dd, t1, x, fs', rfl, ha, hdd, _, hl, rx⟩ := rb
      obtain rfl : u = Value.ref a := ru
      have e1 := exoA_at I1.hok ha
      obtain ⟨mA, hns, hr⟩ := exd_at I1.hok hdd
      obtain ⟨od, ho, hlk⟩ := lookIn_ns hns
      rw [ecf] at hl
      obtain ⟨u2, hu, ru2⟩ := RelO.some_of (v := x) (o := mA n) (by rw [← hl]; exact hr n)
      have J : PySem.W.InstAt s1.heap a _ (C.ca c) (some od) := ⟨e1, rfl, rfl, ho⟩
      exact HandSPX.exc_get (K := C.K) (hK ▸ I1.kIn) J xf.ga xf.gg xf.exC (PySem.W.findObj_own xf.hdC hno rfl (by rw [hlk, hu])) (handed_of ru2) ⟨x, H1, I1.tok _, ru2, p x H1 rx sr (.refl _)⟩
    · exact p.elim
  · exact p.elim
/-! ### str(x) -/
def fStr (okc : Nat → Bool) (cm : Nat → Str) : D → Option D
  | .str x => some (.str x)
  | .int i => if i.natAbs.log2 < 1920 then some (.str (toString i)) else none
  | .err c _ => if okc c then some (.str (cm c)) else none
  | _ => none
def sUn (f : D → Option D) (m : SS → O Hd) : SS → O D := fun σ => (m σ).bind fun h σ1 => match res σ1 h with
  | some d => ofOpt (f d) σ1
  | none => .bad
theorem un_core {f : D → Option D} {m : SS → O Hd} {W : WX} {τ : L2.St} {H : Hp} {Q : VK} (h : tE C W (sUn f m) τ H Q) : tHd C W m τ H fun x H1 => ∃ a d, Rb C H1 a x ∧ f a = some d ∧ ∀ r H', Same H1 H' → Rp C H' d r → Q r H' := by
  refine (tG_bind (R := RH C) h).mono fun x H1 ⟨h1, r1, f1, G, σ, sr, p⟩ => ?_
  dsimp only at p
  split at p
  · rename_i a e
    cases e2 : f a with
    | none => rw [e2] at p; exact p.elim
    | some d => rw [e2] at p; exact ⟨a, d, sr.res r1 e, e2, fun r H' s q => p r H' q (sr.same s) (.of_same s)⟩
  · exact p.elim
/-- a built-in function's one argument -/
def rU (C : Cn) (f : D → Option D) : List V → Hp → VK → Prop := fun xs H Q => ∃ x a d, xs = [x] ∧ Rb C H a x ∧ f a = some d ∧ ∀ r H', Same H H' → Rp C H' d r → Q r H'
theorem me_callB {f : D → Option D} {m : SS → O Hd} {id : String} (hc : ∀ E, CallR (X.wish E) (.builtin id) (rU C f)) (hg : Gl X x) (hm : X.mg x = none) (hv : bootBuiltins x = some (.builtin id)) (ha : MH X C e m) (hn : x ≠ "__name__" := by decide) (hdb : (x == ("__debug__" : Str)) = false := by decide)
    (he : starEach [e] X.env = (false, eval e X.env) :: starEach [] X.env := by rfl) (hpl : (backTo pos (starEach [] X.env)).any (·.1) = false := by rfl) : ME X C (.Call (.Name x p) [e] [] pos) (sUn f m) :=
  ⟨fun E W tk => (pe_callB (X := X.wish E) (hc E) hg hm hv (pa_cons (ha.pe E W tk) pa_nil he) hn hdb he hpl).imp fun τ H Q q => (un_core q).mono fun y H1 ⟨a, d, z⟩ => ⟨y, a, d, rfl, z⟩⟩
theorem me_callT {f : D → Option D} {m : SS → O Hd} {id : String} (hc : ∀ E, CallR (X.wish E) (.type id) (rU C f)) (hg : Gl X x) (hm : X.mg x = none) (hv : bootBuiltins x = some (.type id)) (ha : MH X C e m) (hn : x ≠ "__name__" := by decide) (hdb : (x == ("__debug__" : Str)) = false := by decide)
    (he : starEach [e] X.env = (false, eval e X.env) :: starEach [] X.env := by rfl) (hpl : (backTo pos (starEach [] X.env)).any (·.1) = false := by rfl) : ME X C (.Call (.Name x p) [e] [] pos) (sUn f m) :=
  ⟨fun E W tk => (pe_callTy (X := X.wish E) (hc E) hg hm hv (pa_cons (ha.pe E W tk) pa_nil he) hn hdb he hpl).imp fun τ H Q q => (un_core q).mono fun y H1 ⟨a, d, z⟩ => ⟨y, a, d, rfl, z⟩⟩
theorem cr_str {okc : Nat → Bool} (hK : X.K = C.K) (hr : TRoom n X.A) (hq : ∀ c, okc c = true → PySem.W.findIn C.K (.ref (C.ca c)) "__str__" = some (some (.builtin "BaseException.__str__")) ∧ PySem.W.subIn C.K (.ref (C.ca c)) (.type "BaseException") = some true) :
    CallR X (.type "str") (rU C (fStr okc C.cm)) := by
  intro pins s σ H xs us Q I r h
  obtain ⟨x, a, d, rfl, ra, e, q⟩ := h
  have hu := hr.u64
  unfold fStr at e
  split at e
  · cases e
    have := ra.str; subst this
    obtain ⟨u, rfl, t, rfl⟩ := vals1 r
    exact PySem.P.str_of_str ⟨.str _, H, I, ⟨t, rfl⟩, q _ H (.refl H) .s⟩
  · split at e
    · rename_i hi
      cases e
      have := ra.int; subst this
      exact call_str_int pins s σ H _ us Q I r ⟨_, rfl, hi, q _ H (.refl H) .s⟩
    · cases e
  · rename_i c d'
    split at e
    · rename_i hc
      cases e
      obtain ⟨h1, h2⟩ := hq c hc
      have rb : Rp C H (.err c d') x := ra
      simp only [Rp] at rb
      obtain ⟨a, dd, t1, y, fs', rfl, ha, hdd, ht, hl, rx⟩ := rb
      obtain ⟨u, rfl, ru⟩ := vals1 r
      obtain rfl : u = Value.ref a := ru
      have e1 := exoA_at I.hok ha
      obtain ⟨_, its, rv, o, q1, q2, k, q3⟩ := (show ObjOk X.prog X.w H s.heap t1 (.tup [.str (C.cm c)]) from I.hok t1 _ ht)
      obtain ⟨u1, rfl, tk, rfl⟩ := vals1 rv
      refine PySem.P.str_of_C_one (K := C.K) (C := C.ca c) (e := a) (t0 := t1) (m := C.cm c) (tk := tk) (by omega) ⟨hK ▸ I.kIn, _, _, e1, rfl, rfl, rfl⟩ ⟨o, k, q1, q2, q3⟩ h1 h2 ⟨.str (C.cm c), H, I, ⟨tk, rfl⟩, q _ H (.refl H) .s⟩
    · cases e
  · cases e
/-! ### sum(xs), len(x), int(x) -/
def intsOf : List D → Option (List Int)
  | [] => some []
  | .int i :: r => (intsOf r).map (i :: ·)
  | _ => none
theorem intsOf_rp : ∀ {ds : List D} {vs : List V} {ns : List Int}, RpL C H ds vs → intsOf ds = some ns → vs = ns.map V.int
  | [], vs, ns, h, e => by simp only [intsOf] at e; cases e; exact h.nilR
  | d :: ds, vs, ns, h, e => by
    simp only [RpL] at h
    obtain ⟨v, r, rfl, h1, h2⟩ := h
    cases d with
    | int i =>
      simp only [intsOf] at e
      cases q : intsOf ds with
      | none => rw [q] at e; cases e
      | some ms =>
        rw [q] at e; cases e
        rw [intsOf_rp h2 q, h1.rb.int]; rfl
    | _ => simp only [intsOf] at e; cases e
def fSum : D → Option D
  | .lst ds => (intsOf ds).map fun ns => .int ns.sum
  | _ => none
theorem cr_sumD (hK : X.K = C.K) (hc : X.calm = true) : CallR X (.builtin "sum") (rU C fSum) := by
  intro pins s σ H xs us Q I r h
  obtain ⟨x, a, d, rfl, ra, e, q⟩ := h
  unfold fSum at e
  split at e
  · rename_i ds
    cases q2 : intsOf ds with
    | none => rw [q2] at e; cases e
    | some ns =>
      rw [q2] at e; cases e
      obtain ⟨p, vs, rfl, sl, rl⟩ := ra.lst
      have := intsOf_rp rl q2; subst this
      exact cr_sum hc pins s σ H _ us Q I r ⟨p, ns, rfl, hK ▸ sl, q _ H (.refl H) .i⟩
  · cases e
def fLen : D → Option D
  | .lst ds => some (.int ds.length)
  | .tup ds => some (.int ds.length)
  | .str x => if x.length ≤ LIM then some (.int x.length) else none
  | _ => none
theorem cr_lenD (hK : X.K = C.K) : CallR X (.builtin "len") (rU C fLen) := by
  intro pins s σ H xs us Q I r h
  obtain ⟨x, a, d, rfl, ra, e, q⟩ := h
  unfold fLen at e
  split at e
  · cases e
    obtain ⟨p, vs, rfl, sl, rl⟩ := ra.lst
    refine call_len_seq pins s σ H _ us Q I r ⟨p, vs, rfl, .inl (hK ▸ sl), ?_⟩
    rw [rl.length]; exact q _ H (.refl H) .i
  · cases e
    obtain ⟨p, vs, rfl, sl, rl⟩ := ra.tup
    refine call_len_seq pins s σ H _ us Q I r ⟨p, vs, rfl, .inr (hK ▸ sl), ?_⟩
    rw [rl.length]; exact q _ H (.refl H) .i
  · split at e
    · rename_i hl
      cases e
      have := ra.str; subst this
      exact call_len_str pins s σ H _ us Q I r ⟨_, rfl, by rw [LIM_eq]; exact hl, q _ H (.refl H) .i⟩
    · cases e
  · cases e
def fInt : D → Option D
  | .int i => some (.int i)
  | .bl b => some (.int (if b then 1 else 0))
  | _ => none
theorem cr_intD : CallR X (.type "int") (rU C fInt) := by
  intro pins s σ H xs us Q I r h
  obtain ⟨x, a, d, rfl, ra, e, q⟩ := h
  unfold fInt at e
  split at e
  · cases e
    have := ra.int; subst this
    exact call_int1 pins s σ H _ us Q I r (.inl ⟨_, rfl, q _ H (.refl H) .i⟩)
  · cases e
    have := ra.bl; subst this
    exact call_int1 pins s σ H _ us Q I r (.inr ⟨_, rfl, q _ H (.refl H) .i⟩)
  · cases e
end
end TL

set_option Elab.async false
set_option linter.all false
set_option maxRecDepth 100000
set_option maxHeartbeats 4000000
/-! TL17: [..] * n; the law's own call. -/
namespace TL
open PySem PySem.Spec PyProof.Rows L2
section
variable {X : Cx} {C : Cn} {a b : Expr} {ma : SS → O (List D)} {mb : SS → O D} {pos : Pos}
/-- a new list -/
def sLs (m : SS → O (List D)) : SS → O (List D) := fun σ => (m σ).bind fun ds σ' => if ds.length ≤ LIM then .ok ds σ' else .bad
theorem mf_ls {es : List Expr} {m : SS → O (List D)} (hm : MA X C es m) : MF X C (.List es pos) (sLs m) := mf_lst hm
/-- [..] * n -/
def sRep (ma : SS → O (List D)) (mb : SS → O D) : SS → O (List D) := fun σ => (ma σ).bind fun ds σ1 => (mb σ1).bind fun d σ2 => match d with
  | .int k => if -1000 ≤ k ∧ k ≤ 4000 ∧ ds.length ≤ 4000 then .ok (List.replicate k.toNat ds).flatten σ2 else .bad
  | _ => .bad
theorem mf_rep (ha : MF X C a ma) (hb : ME X C b mb) : MF X C (.BinOp a .Mult b pos) (sRep ma mb) := by
  refine ⟨fun E W tk => (pe_op (op_rep (X := X.wish E)) (ha.pe E W tk) (hb.pe E W tk)).imp fun τ H Q ⟨G, σ, sr, p⟩ => ⟨G, σ, sr, ?_⟩⟩
  have p : PostF C W τ G H ((ma σ).bind fun ds σ1 => (mb σ1).bind fun d σ2 => match d with
    | .int k => if -1000 ≤ k ∧ k ≤ 4000 ∧ ds.length ≤ 4000 then .ok (List.replicate k.toNat ds).flatten σ2 else .bad
    | _ => .bad) Q := p
  cases e : ma σ with
  | bad => rw [e] at p; exact p
  | ex x σ' => rw [e] at p; exact p
  | ok ds σ1 =>
    rw [e] at p
    have p : PostF C W τ G H ((mb σ1).bind fun d σ2 => match d with
      | .int k => if -1000 ≤ k ∧ k ≤ 4000 ∧ ds.length ≤ 4000 then .ok (List.replicate k.toNat ds).flatten σ2 else .bad
      | _ => .bad) Q := p
    intro l vs H1 h1 h2 h3 h4 f1
    refine ⟨⟨upd G.hp l (.lst vs), G.at_⟩, σ1, h4, ?_⟩
    cases e2 : mb σ1 with
    | bad => rw [e2] at p; exact p
    | ex x σ' => rw [e2] at p; exact fun cls d H' q1 q2 q3 => p cls d H' q1 (q2.freeG h3) (f1.trans q3)
    | ok d σ2 =>
      rw [e2] at p
      intro y H2 ry s2 f2
      cases d with
      | int k =>
        have p : PostF C W τ G H (if -1000 ≤ k ∧ k ≤ 4000 ∧ ds.length ≤ 4000 then .ok (List.replicate k.toNat ds).flatten σ2 else .bad) Q := p
        split at p
        · rename_i hc
          have := ry.rb.int; subst this
          have hl : H2 l = some (.lst vs) := s2.gr l _ upd_same
          have r2 := h2.fx f2
          have hvs : vs.length = ds.length := r2.length
          have hrep : ∀ n, RpL C H2 (List.replicate n ds).flatten (List.replicate n vs).flatten := fun n => by
            induction n with
            | zero => exact .nil
            | succ n ih => simp only [List.replicate_succ, List.flatten_cons]; exact r2.append ih
          refine ⟨l, k, vs, rfl, rfl, hl, by omega, by omega, ?_, fun q hq => ?_⟩
          · rw [LIM_eq, hvs]
            have := Nat.mul_le_mul hc.2.2 (show k.toNat ≤ 4000 by omega)
            unfold LIM
            omega
          · have sm : Same H2 (upd H2 q (.lst (List.replicate k.toNat vs).flatten)) := same_new hq
            obtain ⟨n, s3⟩ := s2.new (o := .lst (List.replicate k.toNat vs).flatten) hq
            have gq : G.hp q = none := by
              cases z : G.hp q with
              | none => rfl
              | some u =>
                have ne : q ≠ l := by rintro rfl; rw [h3] at z; cases z
                have := s2.gr q u (by show upd G.hp l _ q = _; rw [upd_ne ne]; exact z)
                rw [hq] at this; cases this
            refine p q _ _ upd_same ((hrep _).fx (.of_same sm)) gq ?_ ((f1.trans f2).trans (.of_same sm))
            refine s3.weakG rfl fun b o z => ?_
            have z : upd G.hp q _ b = some o := z
            show upd (upd G.hp l _) q _ b = some o
            by_cases hb : b = q
            · subst hb; rw [upd_same] at z ⊢; exact z
            · rw [upd_ne hb] at z ⊢
              rw [upd_ne (show b ≠ l by rintro rfl; rw [h3] at z; cases z)]
              exact z
        · exact p.elim
      | _ => exact p.elim
end

/-! ### the law's own call -/
theorem caller_room {k : Nat} (hd : callerA.depth + k + 20 < recursionLimit) (hu : callerA.units + 16 * k + 400 < cLine) : TRoom k callerA := ⟨rfl, rfl, hd, hu⟩
section
variable {P : Program} {w : World} {K : PySem.W.Frag} {mg mb : Str → Option Value} {C : Cn} {k : Nat} {fa a : Addr} {fd : FuncData} {x : Str} {F : FT} {s1 : Shared} {vs : List Value} {ns : List Int}
/-- what a run from the known heap H gives of the whole heap -/
theorem law_run {H : Hp} (hCK : C.K = K) (hCT : C.T = []) (KX : K.In s1.heap) (g1 : s1.heap.Ns mainGlobals mg) (g2 : s1.heap.Ns builtinsNs mb) (g3 : ∀ x : Str, x ≠ "__name__" → mb x = bootBuiltins x) (lim : s1.heap.NoLimit) (gen : s1.gens = #[])
    (at_ : s1.heap.get? a = some { cls := .type "list", data := .seq vs.toArray }) (room : TRoom k callerA) (fn : ∀ base : Heap, K.In base → base.Ns mainGlobals mg → FnT P w K mg base C k fa fd [x] F) (bind : ∀ (s : Shared) (u : Value), BindsTo s fd ⟨[u], []⟩ [(x, u)])
    (hF : ∃ outs, F [.val (.lst (ns.map D.int))] = .ok (.bl true) outs) (hS : Rp C H (.lst (ns.map D.int)) (.ref a)) (hO : ∀ b u, H b = some u → ∃ o xs, u = .frz o (.lst xs)) (hA : ∀ b, H b ≠ none → b = a) (hN : H a ≠ none → K.lookup a = none) (hok : HOk P w H s1.heap) :
    codeAny (model P w) callerA (.call (.ref fa) ⟨[.ref a], []⟩) (fun r s' => r = .ok (.ret (.bool true)) ∧ OldK s1.heap s'.heap ∧ s'.os = s1.os ∧ AllBare s'.gens) s1 := by
  have low : ∀ {b : Addr} {o : Obj}, s1.heap.get? b = some o → H b = none → (hidT s1.heap H).get? b = some o := fun e n => hidT_get e n
  have free : ∀ {b : Addr}, b ≠ a → H b = none := fun {b} nb => by
    cases q : H b with
    | none => rfl
    | some u => exact absurd (hA b (by rw [q]; simp)) nb
  have nsK : ∀ {b : Addr} {m : Str → Option Value}, s1.heap.Ns b m → (hidT s1.heap H).Ns b m := fun {b m} ⟨o, es, ep, e, d, r⟩ => ⟨o, es, ep, low e (free fun z => by
    subst z; rw [at_] at e; cases e
    have d : Data.seq vs.toArray _ = Data.dict es ep := d
    cases d), d, r⟩
  have inK : K.In (hidT s1.heap H) := fun b o e => low (KX b o e) (by
    by_cases hb : b = a
    · subst hb
      cases q : H b with
      | none => rfl
      | some u => rw [hN (by rw [q]; simp)] at e; cases e
    · exact free hb)
  have md : Mod K mg (hidT s1.heap H) := ⟨inK, nsK g1, ⟨mb, nsK g2, g3⟩, let ⟨mc, h1, h2⟩ := lim; ⟨mc, nsK h1, h2⟩⟩
  have e0 : Env0 P w K mg (hidT s1.heap H) callerA [] s1 H := ⟨rfl, md, fun b o e => of_hidT e, Nat.le_of_eq (hidT_size _ _), trivial, fun b hb => absurd (show b ∈ ([] : List Addr) from hb) (by simp), hok, .of_eq gen⟩
  obtain ⟨outs, eF⟩ := hF
  have args : RArgs C H [.val (.lst (ns.map D.int))] [.ref a] (fun _ => 0) := by
    refine ⟨by rw [hCT]; exact fun p hp => absurd hp (by simp), rfl, fun j d e => ?_, fun j m e => ?_, fun j i m e => ?_, fun i j ⟨m, e⟩ _ _ => ?_⟩
    · cases j with
      | zero => cases e; exact ⟨_, rfl, hS⟩
      | succ j => cases e
    · cases j with
      | zero => cases e
      | succ j => cases e
    · cases j with
      | zero => cases e
      | succ j => cases e
    · cases i with
      | zero => cases e
      | succ i => cases e
  refine codeAny_mono ((fn _ inK (nsK g1)).run callerA [] s1 H ⟨[.ref a], []⟩ [.ref a] [.ref a] (fun v _ => v = .bl true) (fun _ _ _ => False) room e0 (bind s1 (.ref a)) (.cons rfl .nil) ⟨_, _, args, by rw [eF]; exact fun v H' rv _ => rv.rb.bl⟩) fun r s' h => ?_
  cases r with
  | error e => obtain ⟨_, _, _, _, _, _, _, _, _, _, _, _, z⟩ := h; exact z.elim
  | ok fl =>
    cases fl with
    | next => exact False.elim h
    | brk => exact False.elim h
    | cont => exact False.elim h
    | ret u =>
      obtain ⟨v, H', os, bare, un, hok', rv, q⟩ := h
      subst q
      obtain rfl : u = Value.bool true := rv
      refine ⟨rfl, OldK.of_keep fun b o e => ?_, os, bare⟩
      cases q : H b with
      | none => exact un.keep b o e q (fun z => absurd (show b ∈ ([] : List Addr) from z) (by simp)) (by simp)
      | some u =>
        obtain ⟨ob, xs, rfl⟩ := hO b u q
        obtain ⟨e1, _⟩ := hok b _ q
        obtain ⟨e2, _⟩ := hok' b _ (un.frzs b ob _ q)
        rw [e] at e1; cases e1
        exact e2
theorem ints_rp {H : Hp} : ∀ ns : List Int, RpL C H (ns.map D.int) (ns.map V.int)
  | [] => .nil
  | n :: ns => .cons .i (ints_rp ns)
theorem law_callT (hCK : C.K = K) (hCT : C.T = []) (KX : K.In s1.heap) (g1 : s1.heap.Ns mainGlobals mg) (g2 : s1.heap.Ns builtinsNs mb) (g3 : ∀ x : Str, x ≠ "__name__" → mb x = bootBuiltins x) (lim : s1.heap.NoLimit) (gen : s1.gens = #[])
    (at_ : s1.heap.get? a = some { cls := .type "list", data := .seq vs.toArray }) (hi : IntsAre vs ns) (hl : ns.length ≤ sizeLine) (room : TRoom k callerA) (fn : ∀ base : Heap, K.In base → base.Ns mainGlobals mg → FnT P w K mg base C k fa fd [x] F) (bind : ∀ (s : Shared) (u : Value), BindsTo s fd ⟨[u], []⟩ [(x, u)])
    (hF : ∃ outs, F [.val (.lst (ns.map D.int))] = .ok (.bl true) outs) :
    codeAny (model P w) callerA (.call (.ref fa) ⟨[.ref a], []⟩) (fun r s' => r = .ok (.ret (.bool true)) ∧ OldK s1.heap s'.heap ∧ s'.os = s1.os ∧ AllBare s'.gens) s1 := by
  have rv := vals_ints hi
  cases hk : K.lookup a with
  | some o =>
    have e := KX a o hk
    rw [at_] at e; cases e
    refine law_run (H := fun _ => none) hCK hCT KX g1 g2 g3 lim gen at_ room fn bind hF ?_ (fun b u z => by cases z) (fun b z => absurd rfl z) (fun z => absurd rfl z) (fun b u z => by have z' : (none : Option HO) = some u := z; cases z')
    simp only [Rp]
    exact ⟨a, _, rfl, .inr ⟨_, vs.toArray, _, by rw [hCK]; exact hk, rfl, rfl, rfl, by rw [List.size_toArray, hi.length]; exact hl, by simpa using rv⟩, ints_rp ns⟩
  | none =>
    refine law_run (H := fun b => if b = a then some (.frz { cls := .type "list", data := .seq vs.toArray } (.lst (ns.map V.int))) else none) hCK hCT KX g1 g2 g3 lim gen at_ room fn bind hF ?_ (fun b u z => ?_) (fun b z => ?_) (fun _ => hk) (fun b u z => ?_)
    · simp only [Rp]
      exact ⟨a, _, rfl, .inl ⟨_, if_pos rfl⟩, ints_rp ns⟩
    · have z : (if b = a then some (HO.frz { cls := .type "list", data := .seq vs.toArray } (.lst (ns.map V.int))) else none) = some u := z
      split at z
      · cases z; exact ⟨_, _, rfl⟩
      · cases z
    · by_cases hb : b = a
      · exact hb
      · exact absurd (if_neg hb) z
    · have z : (if b = a then some (HO.frz { cls := .type "list", data := .seq vs.toArray } (.lst (ns.map V.int))) else none) = some u := z
      split at z
      · rename_i hb
        cases z
        subst hb
        exact ⟨at_, by rw [List.length_map]; exact hl, vs, _, rv, at_⟩
      · cases z
/-- the goal that the head leaves, from the law's def -/
theorem walk_T {l : PySem.W.OpenLaw} {n k : Nat} {q : Program} {loose : List Str} {XP : (Str → Option Value) → Heap → Prop} {YP : World → Heap → Prop} {d : DefRec} {K : Params → PySem.W.Frag} {F : FT} {x : Str}
    (hn : l.most = some n) (hn2 : n ≤ sizeLine) (hdf : d.params.defaults = []) (room : TRoom k callerA) (hY : ∀ (w : World) (h : Heap), YP w h → (K w.params).In h)
    (fn : ∀ (w : World) (mg : Str → Option Value) (fa : Addr) (h : Heap), (K w.params).In h → h.Ns mainGlobals mg → mg d.name = some (.ref fa) →
      ∃ (C : Cn) (fd : FuncData), C.K = K w.params ∧ C.T = [] ∧ (∀ (s : Shared) (u : Value), BindsTo s fd ⟨[u], []⟩ [(x, u)]) ∧ ∀ base : Heap, (K w.params).In base → base.Ns mainGlobals mg → FnT l.prog w (K w.params) mg base C k fa fd [x] F)
    (hF : ∀ ns : List Int, ns.length ≤ n → ∃ outs, F [.val (.lst (ns.map D.int))] = .ok (.bl true) outs) : PySem.W.WalkO q loose XP YP l.row.toRowW d [] (fun f vs => PySem.call f vs) := by
  refine Att.attach_call hn hdf fun w s₀ s₁ mg mb fa o pm cd doc a vs ns G Y ho hd hcd hmg hobj hints hlen hg => ?_
  have KX := hY w _ Y
  obtain ⟨C, fd, c1, c2, hb, hf⟩ := fn w mg fa _ KX G.T.g hmg
  exact law_callT c1 c2 KX G.T.g G.T.b G.T.builtins G.T.nolimit hg hobj hints (Nat.le_trans hlen hn2) room hf hb (hF ns hlen)
end
end TL

set_option Elab.async false
set_option linter.all false
set_option maxRecDepth 100000
set_option maxHeartbeats 4000000
/-! TL18: what the top has written of exception classes and defs, as facts in a row. -/
namespace TL
open PySem PySem.Spec PyProof.Rows L2
/-- the kinds of classes: 0 under the text's own class at S (a ValueError), 1 an OverflowError, 2 a LookupError, 3 a ValueError -/
def tlOf : Nat → List Value
  | 0 | 3 => [.type "ValueError", .type "Exception", .type "BaseException", .type "object"]
  | 1 => [.type "OverflowError", .type "ArithmeticError", .type "Exception", .type "BaseException", .type "object"]
  | _ => [.type "LookupError", .type "Exception", .type "BaseException", .type "object"]
def bmOf (S : Addr) : Nat → List Value
  | 0 => .ref S :: tlOf 0
  | k => tlOf k
def bOf : Nat → String
  | 0 | 3 => "ValueError" | 1 => "OverflowError" | _ => "LookupError"
def newOf : Nat → String
  | 0 | 3 => "ValueError.__new__" | 1 => "OverflowError.__new__" | _ => "LookupError.__new__"
def iniOf : Nat → String
  | 0 | 3 => "ValueError.__init__" | 1 => "OverflowError.__init__" | _ => "LookupError.__init__"
theorem bkOf : ∀ kd : Nat, kd < 4 → BaseK (bOf kd) (newOf kd) (iniOf kd) (tlOf kd)
  | 0, _ => bk_value
  | 1, _ => bk_overflow
  | 2, _ => bk_lookup
  | 3, _ => bk_value
theorem refsT_self {tl : List Value} (h : ∀ a r, tl ≠ .ref a :: r) : refsT tl tl = true := by
  unfold refsT
  split
  · rename_i a r; exact absurd rfl (h a r)
  · exact beq_self_eq_true _
theorem refsOf (S : Addr) : ∀ kd : Nat, kd < 4 → refsT (tlOf kd) (bmOf S kd) = true
  | 0, _ => by show refsT (tlOf 0) (tlOf 0) = true; decide +kernel
  | 1, _ => by show refsT (tlOf 1) (tlOf 1) = true; decide +kernel
  | 2, _ => by show refsT (tlOf 2) (tlOf 2) = true; decide +kernel
  | 3, _ => by show refsT (tlOf 3) (tlOf 3) = true; decide +kernel
/-- a class object -/
structure KObj (K : PySem.W.Frag) (S : Addr) (kd : Nat) (nm : Str) (c : Addr) (o : Obj) : Prop where
  lo : K.lookup c = some o
  ex : ∃ q N bs sn sub ab col dd k0 k1 k2 k3 k5, o = excClassObj nm q c N bs (bmOf S kd) true sn sub ab col dd k0 k1 k2 k3 k5 (newOf kd)
structure KCls (K : PySem.W.Frag) (S : Addr) (kd : Nat) (nm f : Str) (c : Addr) (o : Obj) : Prop extends KObj K S kd nm c o where
  sa : PySem.W.findIn K (.ref c) "__setattr__" = some (some (.builtin "object.__setattr__"))
  ga : PySem.W.findIn K (.ref c) "__getattribute__" = some (some (.builtin "BaseException.__getattribute__"))
  gg : PySem.W.findIn K (.ref c) "__getattr__" = some none
  gc : PySem.W.findIn K (.ref c) "__class__" = some (some (.builtin "object.__class__"))
  gs : PySem.W.findIn K (.ref c) "__str__" = some (some (.builtin "BaseException.__str__"))
  nf : PySem.W.findIn K (.ref c) f = some none
  tC : PySem.W.typeIn K (.ref c) = some (.type "type")
  kC : PySem.W.keepIn K (.ref c) = true
/-- its __init__ -/
structure KIni (K : PySem.W.Frag) (qual : Str) (st : Stmt) (c f1 : Addr) (o1 : Obj) (dV cd : Value) : Prop where
  a1 : PySem.W.findIn K (.ref c) "__init__" = some (some (.ref f1))
  t1 : PySem.W.typeIn K (.ref f1) = some (.type "function")
  l1 : K.lookup f1 = some o1
  e1 : ∃ oc od kV doc pm an ct osl, o1 = ⟨oc, od, .func (PySem.W.fnOf "__init__" qual (defArgs st) (defBody st) (defScope st) dV kV doc pm an cd ct), osl⟩
  c1 : PySem.W.codeIn K cd qual = true
  k1 : PySem.W.keepIn K (.ref f1) = true
section
variable {K : PySem.W.Frag} {S c d : Addr} {kd kd' : Nat} {nm nm' f : Str} {o o' : Obj}
theorem KObj.mro (z : KObj K S kd nm c o) : ∃ cd, PySem.W.clsIn K c = some cd ∧ cd.mro = .ref c :: bmOf S kd ∧ cd.hasDict = true := by
  obtain ⟨q, N, bs, sn, sub, ab, col, dd, k0, k1, k2, k3, k5, rfl⟩ := z.ex
  refine ⟨{ name := nm, bases := bs, mro := .ref c :: bmOf S kd, ns := N, qualname := q, hasDict := true, slotNames := sn, subclasses := sub, abstract := ab, collection := col, hasDel := false }, ?_, rfl, rfl⟩
  unfold PySem.W.clsIn; rw [z.lo] <;> rfl
theorem KObj.sub (z : KObj K S kd nm c o) (t : Value) : PySem.W.subIn K (.ref c) t = some ((Value.ref c :: bmOf S kd).contains t) := by
  obtain ⟨cd, e, m, _⟩ := z.mro
  show PySem.W.mroIn K c t = _
  unfold PySem.W.mroIn
  rw [e, Option.bind_some, m]; rfl
theorem KObj.ne (z : KObj K S kd nm c o) (z' : KObj K S kd' nm' d o') (h : nm ≠ nm') : c ≠ d := by
  rintro rfl
  obtain ⟨q, N, bs, sn, sub, ab, col, dd, k0, k1, k2, k3, k5, e⟩ := z.ex
  obtain ⟨q', N', bs', sn', sub', ab', col', dd', k0', k1', k2', k3', k5', e'⟩ := z'.ex
  have := z.lo.symm.trans z'.lo
  rw [e, e'] at this
  exact h (congrArg (fun x : Option Obj => match x with | some ⟨_, _, .cls cd, _⟩ => cd.name | _ => "") this)
theorem tl_noref (a : Addr) : ∀ kd, (tlOf kd).contains (.ref a) = false
  | 0 | 1 | 2 | 3 => by simp [tlOf]
  | n + 4 => by simp [tlOf]
theorem KCls.exC (z : KCls K S kd nm f c o) : PySem.W.subIn K (.ref c) (.type "BaseException") = some true := by
  rw [z.toKObj.sub]
  match kd with
  | 0 | 1 | 2 | 3 => simp [bmOf, tlOf]
  | n + 4 => simp [bmOf, tlOf]
theorem KCls.obj (z : KCls K S kd nm f c o) : PySem.W.mroIn K c (.type "object") = some true := by
  have := z.toKObj.sub (.type "object")
  have e : PySem.W.mroIn K c (.type "object") = _ := this
  rw [e]
  match kd with
  | 0 | 1 | 2 | 3 => simp [bmOf, tlOf]
  | n + 4 => simp [bmOf, tlOf]
theorem KCls.hd (z : KCls K S kd nm f c o) : PySem.W.hasDictIn K c = true := by
  obtain ⟨cd, e, _, h⟩ := z.toKObj.mro
  unfold PySem.W.hasDictIn
  rw [e]; simpa using h
theorem KCls.xf (z : KCls K S kd nm f c o) : XfC K c := ⟨z.ga, z.gg, z.exC, z.hd⟩
theorem KCls.ek (z : KCls K S kd nm f c o) (g6 : PySem.W.specialIn K (.builtin "object.__class__") "__get__" = some (some (.builtin "getset_descriptor.__get__"))) (g7 : PySem.W.takesIn K (.builtin "object.__class__") = some true) : EkC K c :=
  ⟨z.ga, z.gg, z.exC, by obtain ⟨cd, e, _, _⟩ := z.toKObj.mro; rw [e]; rfl, z.gc, g6, g7, z.obj⟩
theorem KCls.clsE (z : KCls K S kd nm f c o) (hk : kd < 4) : ClsE K c (bOf kd) (newOf kd) (iniOf kd) (tlOf kd) := by
  obtain ⟨q, N, bs, sn, sub, ab, col, dd, k0, k1, k2, k3, k5, e⟩ := z.ex
  exact ⟨bkOf kd hk, ⟨nm, q, N, bs, _, sn, sub, ab, col, dd, k0, k1, k2, k3, k5, e ▸ z.lo, refsOf S kd hk⟩, z.sa, z.exC, z.tC, z.kC, z.xf⟩
/-- isinstance of c's exceptions -/
theorem kit_ref (z : KObj K S kd nm c o) (z' : KObj K S kd' nm' d o') (tD : PySem.W.typeIn K (.ref d) = some (.type "type")) {b : Bool} (h : (Value.ref c :: bmOf S kd).contains (.ref d) = b) : PySem.W.kitOne K (.ref c) (.ref d) = some b := by
  unfold PySem.W.kitOne
  by_cases hcd : c = d
  · subst hcd
    rw [if_pos (beq_self_eq_true _)]
    have : (Value.ref c :: bmOf S kd).contains (.ref c) = true := by simp
    rw [this] at h; rw [h]
  · rw [if_neg (by simpa using hcd)]
    obtain ⟨cd, e, _, _⟩ := z'.mro
    show (if ((PySem.W.clsIn K d).isSome && PySem.W.typeIn K (.ref d) == some (.type "type")) = true then PySem.W.subIn K (.ref c) (.ref d) else none) = some b
    rw [e, tD, if_pos (by simp), z.sub, h]
theorem kit_own (z : KCls K S kd nm f c o) : PySem.W.kitOne K (.ref c) (.ref c) = some true := kit_ref z.toKObj z.toKObj z.tC (by simp)
theorem kit_oth {oS : Obj} {f' : Str} (z : KCls K S kd nm f c o) (z' : KCls K S kd' nm' f' d o') (zS : KObj K S 3 "SameError" S oS) (h : nm ≠ nm') (h' : "SameError" ≠ nm') : PySem.W.kitOne K (.ref c) (.ref d) = some false := by
  refine kit_ref z.toKObj z'.toKObj z'.tC ?_
  have h1 := z.toKObj.ne z'.toKObj h
  have h2 := zS.ne z'.toKObj h'
  match kd with
  | 0 =>
    have := tl_noref d 0
    simp only [bmOf, List.contains_cons, this, Bool.or_false, Bool.or_eq_false_iff]
    exact ⟨by simpa using h1.symm, by simpa using h2.symm⟩
  | k + 1 =>
    have := tl_noref d (k + 1)
    simp only [bmOf, List.contains_cons, this, Bool.or_false]
    simpa using h1.symm
theorem kit_base {oS : Obj} (z : KCls K S kd nm f c o) (zS : KObj K S 3 "SameError" S oS) (tS : PySem.W.typeIn K (.ref S) = some (.type "type")) (h : nm ≠ "SameError") : PySem.W.kitOne K (.ref c) (.ref S) = some (kd == 0) := by
  refine kit_ref z.toKObj zS tS ?_
  have h1 := z.toKObj.ne zS h
  match kd with
  | 0 => simp [bmOf]
  | k + 1 =>
    have := tl_noref S (k + 1)
    simp only [bmOf, List.contains_cons, this, Bool.or_false]
    have h2 : (Value.ref S == Value.ref c) = false := by simpa using h1.symm
    rw [h2]; rfl
theorem kit_type (z : KObj K S kd nm c o) {T : String} (hm : PySem.W.kitMeta T = true) : PySem.W.kitOne K (.ref c) (.type T) = some ((tlOf kd).contains (.type T)) := by
  unfold PySem.W.kitOne
  rw [if_neg (by simp)]
  show (if PySem.W.kitMeta T = true then PySem.W.subIn K (.ref c) (.type T) else none) = _
  rw [if_pos hm, z.sub]
  match kd with
  | 0 => simp [bmOf]
  | k + 1 => simp [bmOf]
/-- the def of its __init__ -/
def dfOf (K : PySem.W.Frag) : Bool → Value → Prop
  | true, dV => ∃ T oT, dV = .ref T ∧ K.lookup T = some oT ∧ ∃ cl dd n sl, oT = ⟨cl, dd, .seq #[.none] n, sl⟩
  | false, dV => dV = .none
def dvOf : Bool → List V
  | true => [.non]
  | false => []
theorem KIni.fund {qual : Str} {st : Stmt} {f1 : Addr} {o1 : Obj} {dV cd : Value} (z : KIni K qual st c f1 o1 dV cd) {b : Bool} (h : dfOf K b dV) : ∃ fd, FunD K "__init__" qual (defArgs st) (defBody st) (defScope st) (dvOf b) [] f1 fd ∧ ∃ kV doc pm an ct, fd = PySem.W.fnOf "__init__" qual (defArgs st) (defBody st) (defScope st) dV kV doc pm an cd ct := by
  obtain ⟨oc, od, kV, doc, pm, an, ct, osl, e⟩ := z.e1
  refine ⟨_, ⟨⟨oc, od, dV, kV, doc, pm, an, cd, ct, osl, rfl, e ▸ z.l1, z.c1, ?_, .inl rfl⟩, z.k1⟩, kV, doc, pm, an, ct, rfl⟩
  cases b with
  | true =>
    obtain ⟨T, oT, e1, e2, cl, dd, n, sl, e3⟩ := h
    exact .inr ⟨by simp [dvOf], T, oT, [.none], n, e1, e2, by rw [e3], .cons rfl .nil⟩
  | false => exact .inl ⟨rfl, h⟩
end
/-- a def of the module -/
structure KDef (K : PySem.W.Frag) (nm : Str) (st : Stmt) (f : Addr) (o : Obj) (cd : Value) : Prop where
  aF : PySem.W.nsIn K mainGlobals nm = some (some (.ref f))
  lo : K.lookup f = some o
  ex : ∃ oc od kV doc pm an ct osl, o = ⟨oc, od, .func (PySem.W.fnOf nm nm (defArgs st) (defBody st) (defScope st) .none kV doc pm an cd ct), osl⟩
  co : PySem.W.codeIn K cd nm = true
  kp : PySem.W.keepIn K (.ref f) = true
theorem KDef.fun_ {K : PySem.W.Frag} {nm : Str} {st : Stmt} {f : Addr} {o : Obj} {cd : Value} (z : KDef K nm st f o cd) : ∃ fd, Fun K nm nm st f fd ∧ ∃ kV doc pm an ct, fd = PySem.W.fnOf nm nm (defArgs st) (defBody st) (defScope st) .none kV doc pm an cd ct := by
  obtain ⟨oc, od, kV, doc, pm, an, ct, osl, e⟩ := z.ex
  exact ⟨_, fun_mk (e ▸ z.lo) z.co z.kp, kV, doc, pm, an, ct, rfl⟩
end TL
namespace TL
open PySem PySem.Spec PyProof.Rows L2
/-- the body of __init__ -/
def iniBody (bn m f pn : Str) (p1 p2 p3 p4 p5 p6 p7 p8 p9 p10 : Pos) (j : Nat) : List Stmt :=
  [.Expr (.Call (.Attribute (.Name bn p1) "__init__" p2) [.Name "self" p3, .Constant (.str m) j p4] [] p5) p6, .Assign [.Attribute (.Name "self" p7) f p8] (.Name pn p9) p10]
/-- what rfl shows of the text of an __init__ -/
def IniText (st : Stmt) (qual bn m f pn : Str) (f1 : Addr) : Prop := ∃ p1 p2 p3 p4 p5 p6 p7 p8 p9 p10 j, defBody st = iniBody bn m f pn p1 p2 p3 p4 p5 p6 p7 p8 p9 p10 j ∧
  (∀ (cdv : Value) (n : Nat), (envOfC qual (defScope st) n f1 cdv).kindOf bn = some .globalImplicit) ∧
  (∀ (cdv : Value) (n : Nat), ∃ pl : Sem Bool, eval (.Call (.Attribute (.Name bn p1) "__init__" p2) [.Name "self" p3, .Constant (.str m) j p4] [] p5) (envOfC qual (defScope st) n f1 cdv) = (do
      let ov ← eval (.Name bn p1) (envOfC qual (defScope st) n f1 cdv)
      standAt p2.atName
      let (f, first) ← holding [ov] (getMethod ov "__init__" pl)
      callWith p5 f first (backTo p5 (starEach [.Name "self" p3, .Constant (.str m) j p4] (envOfC qual (defScope st) n f1 cdv))) (backToKw p5 (keywordEach [] (envOfC qual (defScope st) n f1 cdv))))) ∧
  (∀ (cdv : Value) (n : Nat), swapsWith (.Call (.Attribute (.Name bn p1) "__init__" p2) [.Name "self" p3, .Constant (.str m) j p4] [] p5) none p6.line (envOfC qual (defScope st) n f1 cdv) = pure false) ∧
  (∀ (cdv : Value) (n : Nat), swapsWith (.Name pn p9) (some (.Attribute (.Name "self" p7) f p8)) p10.line (envOfC qual (defScope st) n f1 cdv) = pure false)
theorem clsO_of {P : Program} {w : World} {K : PySem.W.Frag} {mg : Str → Option Value} {base : Heap} {S c f1 : Addr} {kd : Nat} {nm f qual pn bn m : Str} {st : Stmt} {o o1 : Obj} {dV cd : Value} {b : Bool} (z : KCls K S kd nm f c o) (hk : kd < 4) (zi : KIni K qual st c f1 o1 dV cd) (hd : dfOf K b dV)
    (sc : FnScope ["self", pn] ["self", pn] (defScope st)) (hpd : (pn == ("__debug__" : Str)) = false) (hpc : (pn == ("__classdict__" : Str)) = false) (tx : IniText st qual bn m f pn f1)
    (hB : ∀ (X : Cx) (p1 : Pos), X.K = K → X.mg = mg → Gl X bn → BaseAt X bn p1 (iniOf kd)) :
    ∃ fd, ClsO P w K mg base c f1 f m (bOf kd) (newOf kd) (iniOf kd) (tlOf kd) fd ["self", pn] ∧ FunD K "__init__" qual (defArgs st) (defBody st) (defScope st) (dvOf b) [] f1 fd := by
  obtain ⟨fd, F, _⟩ := zi.fund hd
  obtain ⟨p1, p2, p3, p4, p5, p6, p7, p8, p9, p10, j, eb, e1, e2, e3, e4⟩ := tx
  refine ⟨fd, ⟨z.clsE hk, zi.a1, zi.t1, ?_⟩, F⟩
  have F' : FunD K "__init__" qual (defArgs st) (iniBody bn m f pn p1 p2 p3 p4 p5 p6 p7 p8 p9 p10 j) (defScope st) (dvOf b) [] f1 fd := eb ▸ F
  exact init_fn F' sc hpd hpc (z.clsE hk) z.nf (fun cdv A outer s H E => hB _ p1 rfl rfl (e1 cdv _)) (fun cdv n => e2 cdv n) (fun cdv n => e3 cdv n) (fun cdv n => e4 cdv n)
/-- what a call of the class asks: C(x), C(f = x), C() -/
structure CAll (P : Program) (w : World) (K : PySem.W.Frag) (mg : Str → Option Value) (base : Heap) (c f1 : Addr) (f m pn : Str) (kd : Nat) (b : Bool) (fd : FuncData) : Prop where
  z : ClsO P w K mg base c f1 f m (bOf kd) (newOf kd) (iniOf kd) (tlOf kd) fd ["self", pn]
  pos : Binds K fd ["self", pn] []
  kw : ∀ (s : Shared) (self u : Value), K.In s.heap → BindsTo s fd ⟨[self], ([pn] : List Str).zip [u]⟩ ((["self", pn] : List Str).zip [self, u])
  no : b = true → Binds K fd ["self", pn] [.none]
theorem cAll_d {P : Program} {w : World} {K : PySem.W.Frag} {mg : Str → Option Value} {base : Heap} {c f1 : Addr} {kd : Nat} {f qual pn m : Str} {st : Stmt} {fd : FuncData} (z : ClsO P w K mg base c f1 f m (bOf kd) (newOf kd) (iniOf kd) (tlOf kd) fd ["self", pn]) (F : FunD K "__init__" qual (defArgs st) (defBody st) (defScope st) [.non] [] f1 fd)
    (h2 : ∀ (T : Addr) (kV doc pm : Value) (an : Option Addr) (cdv ct : Value) (us its : List Value), us.length = 2 → its.length = 1 → ∃ k, bindArgs (PySem.W.fnOf "__init__" qual (defArgs st) (defBody st) (defScope st) (.ref T) kV doc pm an cdv ct) ⟨us, []⟩ = seqItems? (.ref T) >>= k ∧ k (some its.toArray) = pure ((["self", pn] : List Str).zip (us ++ its.drop 1)))
    (h1 : ∀ (T : Addr) (kV doc pm : Value) (an : Option Addr) (cdv ct : Value) (us its : List Value), us.length = 1 → its.length = 1 → ∃ k, bindArgs (PySem.W.fnOf "__init__" qual (defArgs st) (defBody st) (defScope st) (.ref T) kV doc pm an cdv ct) ⟨us, []⟩ = seqItems? (.ref T) >>= k ∧ k (some its.toArray) = pure ((["self", pn] : List Str).zip (us ++ its.drop 0)))
    (hk : ∀ (T : Addr) (kV doc pm : Value) (an : Option Addr) (cdv ct : Value) (us its ws : List Value), us.length = 1 → its.length = 1 → ws.length = 1 → ∃ k, bindArgs (PySem.W.fnOf "__init__" qual (defArgs st) (defBody st) (defScope st) (.ref T) kV doc pm an cdv ct) ⟨us, ([pn] : List Str).zip ws⟩ = seqItems? (.ref T) >>= k ∧ k (some its.toArray) = pure ((["self", pn] : List Str).zip (us ++ ws))) :
    CAll P w K mg base c f1 f m pn kd true fd := by
  refine ⟨z, ?_, ?_, fun _ => ?_⟩
  · obtain ⟨ds, v, hb⟩ := F.binds1 (ps := ["self", pn]) 2 1 (by simp) rfl h2
    cases ds with
    | nil => exact hb
    | cons a r => cases v
  · obtain ⟨its, kb⟩ := F.kbindsD (ps := ["self", pn]) 1 [pn] (fun us _ ws => us ++ ws) (by simp) (fun r1 _ r3 => r1.append r3) hk
    exact fun s self u KI => kb.to s [self] [u] KI rfl rfl
  · obtain ⟨ds, v, hb⟩ := F.binds1 (ps := ["self", pn]) 1 0 (by simp) rfl h1
    cases v with
    | cons r t =>
      cases t
      have r : _ = Value.none := r
      subst r
      exact hb
theorem cAll_n {P : Program} {w : World} {K : PySem.W.Frag} {mg : Str → Option Value} {base : Heap} {c f1 : Addr} {kd : Nat} {f qual pn m : Str} {st : Stmt} {fd : FuncData} (z : ClsO P w K mg base c f1 f m (bOf kd) (newOf kd) (iniOf kd) (tlOf kd) fd ["self", pn]) (F : FunD K "__init__" qual (defArgs st) (defBody st) (defScope st) [] [] f1 fd)
    (h2 : ∀ (kV doc pm : Value) (an : Option Addr) (cdv ct : Value) (us : List Value), us.length = 2 → bindArgs (PySem.W.fnOf "__init__" qual (defArgs st) (defBody st) (defScope st) .none kV doc pm an cdv ct) ⟨us, []⟩ = pure ((["self", pn] : List Str).zip us))
    (hk : ∀ (kV doc pm : Value) (an : Option Addr) (cdv ct : Value) (a u : Value), bindArgs (PySem.W.fnOf "__init__" qual (defArgs st) (defBody st) (defScope st) .none kV doc pm an cdv ct) ⟨[a], ([pn] : List Str).zip [u]⟩ = pure ((["self", pn] : List Str).zip [a, u])) :
    CAll P w K mg base c f1 f m pn kd false fd := by
  refine ⟨z, F.bindsN h2, fun s self u KI => ?_, fun h => by cases h⟩
  obtain ⟨oc, od, dV, kV, doc, pm, an, cdv, ct, osl, rfl, lk, hcd, hD, hK⟩ := F.ex
  rcases hD with ⟨_, rfl⟩ | ⟨e, _⟩
  · exact .of_eq (hk kV doc pm an cdv ct self u)
  · exact absurd rfl e
end TL
namespace TL
open PySem PySem.Spec PyProof.Rows L2
theorem fnT_bad {P : Program} {w : World} {K : PySem.W.Frag} {mg : Str → Option Value} {base : Heap} {C : Cn} {k : Nat} {f : Addr} {fd : FuncData} {ps : List Str} : FnT P w K mg base C k f fd ps (fun _ => .bad) :=
  ⟨fun as h => absurd rfl h, fun A outer s H args us vs Q E _ _ _ _ ⟨as, A', r, m⟩ => m.elim⟩
theorem fnT_fun {P : Program} {w : World} {K : PySem.W.Frag} {mg : Str → Option Value} {base : Heap} {C : Cn} {k : Nat} {f : Addr} {fd : FuncData} {N ps : List Str} {nm : Str} {st : Stmt} {m : SS → OS} (F : Fun K nm nm st f fd) (S : FnScope N ps (defScope st))
    (hb : ∀ (cdv : Value) (A : Around) (outer : List Env) (s : Shared) (H : Hp) (E : XK), TRoom k (A.deeper (envOfC nm (defScope st) s.heap.objs.size f cdv)) → MSs (cxOf (CX P w) P w K mg base N nm (defScope st) f cdv A outer s H E) C (defBody st) m) :
    FnT P w K mg base C (k + 1) f fd ps (runB N.length ps.length m) := by
  obtain ⟨oc, od, kV, doc, pm, an, cdv, ct, osl, e, lk, hcd⟩ := F.ex
  subst e
  exact fnT_of lk hcd S fun A outer s H E hr => hb cdv A outer s H E hr
theorem KDef.mg {K : PySem.W.Frag} {nm : Str} {st : Stmt} {f : Addr} {o : Obj} {cd : Value} {h : Heap} {mg : Str → Option Value} (z : KDef K nm st f o cd) (X : K.In h) (G : h.Ns mainGlobals mg) : mg nm = some (.ref f) := PySem.W.mg_of X G z.aF
end TL
namespace TL
open PySem PySem.Spec PyProof.Rows L2
theorem ty_1 : typeOf (.type "OverflowError") = pure (.type "type") := by kernel_rfl
theorem ty_2 : typeOf (.type "LookupError") = pure (.type "type") := by kernel_rfl
end TL

set_option Elab.async false
set_option linter.all false
set_option maxRecDepth 100000
set_option maxHeartbeats 0
namespace LW
open PySem PySem.Spec PyProof.Rows L2 TL
def top (i : Nat) : Stmt := PySem.Challenge.pw_sameinworlds_k99_errors_by_hand.main.body.getD i (.Pass ⟨0, 0, 0, 0⟩)
abbrev s_0 : Stmt := top 20
abbrev N_0 : List Str := ["cell", "k", "number"]
theorem sc_0 : FnScope N_0 ["cell", "k"] (defScope s_0) := ⟨rfl, rfl, rfl, by decide +kernel, rfl, by decide +kernel, by decide +kernel⟩
abbrev s_1 : Stmt := top 21
abbrev N_1 : List Str := ["cell", "k"]
theorem sc_1 : FnScope N_1 ["cell", "k"] (defScope s_1) := ⟨rfl, rfl, rfl, by decide +kernel, rfl, by decide +kernel, by decide +kernel⟩
abbrev s_2 : Stmt := top 22
abbrev N_2 : List Str := ["state", "below", "found", "j"]
theorem sc_2 : FnScope N_2 ["state", "below"] (defScope s_2) := ⟨rfl, rfl, rfl, by decide +kernel, rfl, by decide +kernel, by decide +kernel⟩
abbrev s_3 : Stmt := top 23
abbrev N_3 : List Str := ["e", "some", "word", "is_so"]
theorem sc_3 : FnScope N_3 ["e"] (defScope s_3) := ⟨rfl, rfl, rfl, by decide +kernel, rfl, by decide +kernel, by decide +kernel⟩
abbrev s_4 : Stmt := top 24
abbrev N_4 : List Str := ["thing", "found"]
theorem sc_4 : FnScope N_4 ["thing"] (defScope s_4) := ⟨rfl, rfl, rfl, by decide +kernel, rfl, by decide +kernel, by decide +kernel⟩
abbrev s_5 : Stmt := top 25
abbrev N_5 : List Str := ["thing", "found"]
theorem sc_5 : FnScope N_5 ["thing"] (defScope s_5) := ⟨rfl, rfl, rfl, by decide +kernel, rfl, by decide +kernel, by decide +kernel⟩
abbrev s_6 : Stmt := top 26
abbrev N_6 : List Str := ["thing", "one", "other", "name"]
theorem sc_6 : FnScope N_6 ["thing"] (defScope s_6) := ⟨rfl, rfl, rfl, by decide +kernel, rfl, by decide +kernel, by decide +kernel⟩
abbrev s_7 : Stmt := top 27
abbrev N_7 : List Str := ["script", "k", "cell", "some", "others", "thing", "state", "number", "made", "e", "one", "other", "name"]
theorem sc_7 : FnScope N_7 ["script"] (defScope s_7) := ⟨rfl, rfl, rfl, by decide +kernel, rfl, by decide +kernel, by decide +kernel⟩
abbrev i_0 : Stmt := inClass (top 2) 0
theorem si_0 : FnScope ["self", "place"] ["self", "place"] (defScope i_0) := ⟨rfl, rfl, rfl, by decide +kernel, rfl, by decide +kernel, by decide +kernel⟩
abbrev i_1 : Stmt := inClass (top 3) 0
theorem si_1 : FnScope ["self", "place"] ["self", "place"] (defScope i_1) := ⟨rfl, rfl, rfl, by decide +kernel, rfl, by decide +kernel, by decide +kernel⟩
abbrev i_2 : Stmt := inClass (top 4) 0
theorem si_2 : FnScope ["self", "place"] ["self", "place"] (defScope i_2) := ⟨rfl, rfl, rfl, by decide +kernel, rfl, by decide +kernel, by decide +kernel⟩
abbrev i_3 : Stmt := inClass (top 5) 0
theorem si_3 : FnScope ["self", "place"] ["self", "place"] (defScope i_3) := ⟨rfl, rfl, rfl, by decide +kernel, rfl, by decide +kernel, by decide +kernel⟩
abbrev i_4 : Stmt := inClass (top 6) 0
theorem si_4 : FnScope ["self", "place"] ["self", "place"] (defScope i_4) := ⟨rfl, rfl, rfl, by decide +kernel, rfl, by decide +kernel, by decide +kernel⟩
abbrev i_5 : Stmt := inClass (top 7) 0
theorem si_5 : FnScope ["self", "place"] ["self", "place"] (defScope i_5) := ⟨rfl, rfl, rfl, by decide +kernel, rfl, by decide +kernel, by decide +kernel⟩
abbrev i_6 : Stmt := inClass (top 8) 0
theorem si_6 : FnScope ["self", "place"] ["self", "place"] (defScope i_6) := ⟨rfl, rfl, rfl, by decide +kernel, rfl, by decide +kernel, by decide +kernel⟩
abbrev i_7 : Stmt := inClass (top 9) 0
theorem si_7 : FnScope ["self", "place"] ["self", "place"] (defScope i_7) := ⟨rfl, rfl, rfl, by decide +kernel, rfl, by decide +kernel, by decide +kernel⟩
abbrev i_8 : Stmt := inClass (top 10) 0
theorem si_8 : FnScope ["self", "place"] ["self", "place"] (defScope i_8) := ⟨rfl, rfl, rfl, by decide +kernel, rfl, by decide +kernel, by decide +kernel⟩
abbrev i_9 : Stmt := inClass (top 11) 0
theorem si_9 : FnScope ["self", "place"] ["self", "place"] (defScope i_9) := ⟨rfl, rfl, rfl, by decide +kernel, rfl, by decide +kernel, by decide +kernel⟩
abbrev i_10 : Stmt := inClass (top 12) 0
theorem si_10 : FnScope ["self", "value"] ["self", "value"] (defScope i_10) := ⟨rfl, rfl, rfl, by decide +kernel, rfl, by decide +kernel, by decide +kernel⟩
abbrev i_11 : Stmt := inClass (top 13) 0
theorem si_11 : FnScope ["self", "value"] ["self", "value"] (defScope i_11) := ⟨rfl, rfl, rfl, by decide +kernel, rfl, by decide +kernel, by decide +kernel⟩
abbrev i_12 : Stmt := inClass (top 14) 0
theorem si_12 : FnScope ["self", "place"] ["self", "place"] (defScope i_12) := ⟨rfl, rfl, rfl, by decide +kernel, rfl, by decide +kernel, by decide +kernel⟩
abbrev i_13 : Stmt := inClass (top 15) 0
theorem si_13 : FnScope ["self", "place"] ["self", "place"] (defScope i_13) := ⟨rfl, rfl, rfl, by decide +kernel, rfl, by decide +kernel, by decide +kernel⟩
abbrev i_14 : Stmt := inClass (top 16) 0
theorem si_14 : FnScope ["self", "place"] ["self", "place"] (defScope i_14) := ⟨rfl, rfl, rfl, by decide +kernel, rfl, by decide +kernel, by decide +kernel⟩
abbrev i_15 : Stmt := inClass (top 17) 0
theorem si_15 : FnScope ["self", "most"] ["self", "most"] (defScope i_15) := ⟨rfl, rfl, rfl, by decide +kernel, rfl, by decide +kernel, by decide +kernel⟩
abbrev i_16 : Stmt := inClass (top 18) 0
theorem si_16 : FnScope ["self", "value"] ["self", "value"] (defScope i_16) := ⟨rfl, rfl, rfl, by decide +kernel, rfl, by decide +kernel, by decide +kernel⟩
def cf_ : Nat → Str := fun i => (["place", "place", "place", "place", "place", "place", "place", "place", "place", "place", "value", "value", "place", "place", "place", "most", "value"] : List Str).getD i ""
def cm_ : Nat → Str := fun i => (["no such type", "no such term", "no such program", "no such inputs", "no such world", "no such value", "no such table", "no such tests", "no such code", "no such text", "no such number", "no such letter", "no such paper", "no such deed", "no such helpers", "too many", "nothing so called"] : List Str).getD i ""
def cn (K : PySem.W.Frag) (ca : Nat → Addr) : Cn := { K := K, ca := ca, cf := cf_, cm := cm_, fa := fun _ => 0, T := [] }
def okc (i : Nat) : Bool := decide (i < 17)
def q_BadCode (i : Nat) : Option Bool := if i < 17 then some (i == 8) else none
def q_BadDeed (i : Nat) : Option Bool := if i < 17 then some (i == 13) else none
def q_BadHelpers (i : Nat) : Option Bool := if i < 17 then some (i == 14) else none
def q_BadInputs (i : Nat) : Option Bool := if i < 17 then some (i == 3) else none
def q_BadLetter (i : Nat) : Option Bool := if i < 17 then some (i == 11) else none
def q_BadNumber (i : Nat) : Option Bool := if i < 17 then some (i == 10) else none
def q_BadPaper (i : Nat) : Option Bool := if i < 17 then some (i == 12) else none
def q_BadProgram (i : Nat) : Option Bool := if i < 17 then some (i == 2) else none
def q_BadTable (i : Nat) : Option Bool := if i < 17 then some (i == 6) else none
def q_BadTerm (i : Nat) : Option Bool := if i < 17 then some (i == 1) else none
def q_BadTests (i : Nat) : Option Bool := if i < 17 then some (i == 7) else none
def q_BadText (i : Nat) : Option Bool := if i < 17 then some (i == 9) else none
def q_BadType (i : Nat) : Option Bool := if i < 17 then some (i == 0) else none
def q_BadValue (i : Nat) : Option Bool := if i < 17 then some (i == 5) else none
def q_BadWorld (i : Nat) : Option Bool := if i < 17 then some (i == 4) else none
def q_LookupError (i : Nat) : Option Bool := ([some false, some false, some false, some false, some false, some false, some false, some false, some false, some false, some false, some false, some false, some false, some false, some false, some true] : List (Option Bool)).getD i none
def q_NoSuch (i : Nat) : Option Bool := if i < 17 then some (i == 16) else none
def q_OverflowError (i : Nat) : Option Bool := ([some false, some false, some false, some false, some false, some false, some false, some false, some false, some false, some false, some false, some false, some false, some false, some true, some false] : List (Option Bool)).getD i none
def q_SameError (i : Nat) : Option Bool := ([some true, some true, some true, some true, some true, some true, some true, some true, some true, some true, some true, some true, some true, some true, some true, some false, some false] : List (Option Bool)).getD i none
def q_TooMany (i : Nat) : Option Bool := if i < 17 then some (i == 15) else none
def q_ValueError (i : Nat) : Option Bool := ([some true, some true, some true, some true, some true, some true, some true, some true, some true, some true, some true, some true, some true, some true, some true, some false, some false] : List (Option Bool)).getD i none
def fs_most (i : Nat) : Bool := ([false, false, false, false, false, false, false, false, false, false, false, false, false, false, false, true, false] : List Bool).getD i false
def fs_place (i : Nat) : Bool := ([true, true, true, true, true, true, true, true, true, true, false, false, true, true, true, false, false] : List Bool).getD i false
def fs_value (i : Nat) : Bool := ([false, false, false, false, false, false, false, false, false, false, true, true, false, false, false, false, true] : List Bool).getD i false
/-! what each def does -/
/-- _law_mixed -/
def m_0 (φ : Nat → FT) : SS → OS := (sSeq (sSet 2 (sOp opAdd (sHv (sOp opAdd (sHv (sOp opMod (sHn 0) (sHv (sOp opIx (sHv (sFz (sLs (sCons (sC (.int 1000000007)) (sCons (sC (.int 998244353)) (sCons (sC (.int 2147483629)) (sCons (sC (.int 1000000009)) sNil))))))) (sHv (sOp opMod (sHn 1) (sHv (sC (.int 4))))))))) (sHv (sOp opMul (sHv (sC (.int 7919))) (sHn 1))))) (sHv (sC (.int 13)))))
  (sRet (sOp opMod (sHv (sOp opMul (sHv (sOp opMod (sHv (sOp opMul (sHn 2) (sHn 2))) (sHv (sC (.int 2147483647))))) (sHv (sC (.int 48271))))) (sHv (sC (.int 2147483647))))))
/-- _law_draw -/
def m_1 (φ : Nat → FT) : SS → OS := (sRetM (sDict [.inr "left", .inr "cell", .inr "turns"] (sCons (sIf (sB (sOp cGe (sHn 0) (sHv (sOp opPow (sHv (sC (.int 10))) (sHv (sC (.int 18))))))) (sVar 0) (sC (.int 0))) (sCons (sVar 0) (sCons (sOp opMul (sHv (sC (.int 1000))) (sHn 1)) sNil)))))
def lb_2_0 (φ : Nat → FT) : SS → OS := (sSeq (sDput 0 (sC (.str "turns")) (sOp opAdd (sHv (sDget 0 (sC (.str "turns")))) (sHv (sC (.int 1)))))
  (sDput 0 (sC (.str "left")) (sOp opAdd (sHv (sOp opMul (sHv (sDget 0 (sC (.str "left")))) (sHv (sC (.int 2147483647))))) (sHv (sCall (φ 0) [] (sACons (sAv (sDget 0 (sC (.str "cell")))) (sACons (sAv (sDget 0 (sC (.str "turns")))) sANil)))))))
/-- _law_digit -/
def m_2 (φ : Nat → FT) : SS → OS := (sSeq (sIfS (sB (sOp cEq (sHv (sDget 0 (sC (.str "left")))) (sHv (sC (.int 0))))) (sFor (sRng1 (sC (.int 4))) (gN 3) (lb_2_0 φ)) (fun σ => .nx σ))
  (sSeq (sSet 2 (sOp opMod (sHv (sDget 0 (sC (.str "left")))) (sHn 1)))
  (sSeq (sDput 0 (sC (.str "left")) (sOp opFdiv (sHv (sDget 0 (sC (.str "left")))) (sHn 1)))
  (sRet (sVar 2)))))
/-- _law_kinds -/
def m_3 (φ : Nat → FT) : SS → OS := (sSeq (sSet 1 (sFz (sLs (sCons (sTup (sCons (sC (.str "BadCode")) (sCons (sIsi (isX q_BadCode) (sHn 0)) sNil))) (sCons (sTup (sCons (sC (.str "BadDeed")) (sCons (sIsi (isX q_BadDeed) (sHn 0)) sNil))) sNil)))))
  (sSeq (sSet 1 (sOp opAdd (sHn 1) (sHv (sFz (sLs (sCons (sTup (sCons (sC (.str "BadHelpers")) (sCons (sIsi (isX q_BadHelpers) (sHn 0)) sNil))) (sCons (sTup (sCons (sC (.str "BadInputs")) (sCons (sIsi (isX q_BadInputs) (sHn 0)) sNil))) sNil)))))))
  (sSeq (sSet 1 (sOp opAdd (sHn 1) (sHv (sFz (sLs (sCons (sTup (sCons (sC (.str "BadLetter")) (sCons (sIsi (isX q_BadLetter) (sHn 0)) sNil))) (sCons (sTup (sCons (sC (.str "BadNumber")) (sCons (sIsi (isX q_BadNumber) (sHn 0)) sNil))) sNil)))))))
  (sSeq (sSet 1 (sOp opAdd (sHn 1) (sHv (sFz (sLs (sCons (sTup (sCons (sC (.str "BadPaper")) (sCons (sIsi (isX q_BadPaper) (sHn 0)) sNil))) (sCons (sTup (sCons (sC (.str "BadProgram")) (sCons (sIsi (isX q_BadProgram) (sHn 0)) sNil))) sNil)))))))
  (sSeq (sSet 1 (sOp opAdd (sHn 1) (sHv (sFz (sLs (sCons (sTup (sCons (sC (.str "BadTable")) (sCons (sIsi (isX q_BadTable) (sHn 0)) sNil))) (sCons (sTup (sCons (sC (.str "BadTerm")) (sCons (sIsi (isX q_BadTerm) (sHn 0)) sNil))) sNil)))))))
  (sSeq (sSet 1 (sOp opAdd (sHn 1) (sHv (sFz (sLs (sCons (sTup (sCons (sC (.str "BadTests")) (sCons (sIsi (isX q_BadTests) (sHn 0)) sNil))) (sCons (sTup (sCons (sC (.str "BadText")) (sCons (sIsi (isX q_BadText) (sHn 0)) sNil))) sNil)))))))
  (sSeq (sSet 1 (sOp opAdd (sHn 1) (sHv (sFz (sLs (sCons (sTup (sCons (sC (.str "BadType")) (sCons (sIsi (isX q_BadType) (sHn 0)) sNil))) (sCons (sTup (sCons (sC (.str "BadValue")) (sCons (sIsi (isX q_BadValue) (sHn 0)) sNil))) sNil)))))))
  (sSeq (sSet 1 (sOp opAdd (sHn 1) (sHv (sFz (sLs (sCons (sTup (sCons (sC (.str "BadWorld")) (sCons (sIsi (isX q_BadWorld) (sHn 0)) sNil))) (sCons (sTup (sCons (sC (.str "NoSuch")) (sCons (sIsi (isX q_NoSuch) (sHn 0)) sNil))) sNil)))))))
  (sSeq (sSet 1 (sOp opAdd (sHn 1) (sHv (sFz (sLs (sCons (sTup (sCons (sC (.str "TooMany")) (sCons (sIsi (isX q_TooMany) (sHn 0)) sNil))) sNil))))))
  (sSeq (sSet 1 (sOp opAdd (sHn 1) (sHv (sFz (sLs (sCons (sTup (sCons (sC (.str "base")) (sCons (sIsi (isX q_SameError) (sHn 0)) sNil))) (sCons (sTup (sCons (sC (.str "value")) (sCons (sIsi (isX q_ValueError) (sHn 0)) sNil))) sNil)))))))
  (sSeq (sSet 1 (sOp opAdd (sHn 1) (sHv (sFz (sLs (sCons (sTup (sCons (sC (.str "lookup")) (sCons (sIsi (isX q_LookupError) (sHn 0)) sNil))) (sCons (sTup (sCons (sC (.str "overflow")) (sCons (sIsi (isX q_OverflowError) (sHn 0)) sNil))) sNil)))))))
  (sRet (sFz (sLc [2, 3] (sItL (sVar 1)) (gT (gC (gN 2) (gC (gN 3) gZ))) (sTru (sHn 3)) (sVar 2)))))))))))))))
/-- _law_valued -/
def m_4 (φ : Nat → FT) : SS → OS := (sSeq (sSet 1 (sFz (sLs (sCons (sTup (sCons (sErr 10 (sVar 0)) (sCons (sErr 10 (sVar 0)) (sCons (sC (.str "BadNumber")) sNil)))) sNil))))
  (sRet (sOp opAdd (sHn 1) (sHv (sFz (sLs (sCons (sTup (sCons (sErr 11 (sVar 0)) (sCons (sErr 11 (sVar 0)) (sCons (sC (.str "BadLetter")) sNil)))) sNil)))))))
/-- _law_placed -/
def m_5 (φ : Nat → FT) : SS → OS := (sSeq (sSet 1 (sFz (sLs (sCons (sTup (sCons (sErr 0 (sVar 0)) (sCons (sErr 0 (sVar 0)) (sCons (sC (.str "BadType")) sNil)))) sNil))))
  (sSeq (sSet 1 (sOp opAdd (sHn 1) (sHv (sFz (sLs (sCons (sTup (sCons (sErr 1 (sVar 0)) (sCons (sErr 1 (sVar 0)) (sCons (sC (.str "BadTerm")) sNil)))) sNil))))))
  (sSeq (sSet 1 (sOp opAdd (sHn 1) (sHv (sFz (sLs (sCons (sTup (sCons (sErr 2 (sVar 0)) (sCons (sErr 2 (sVar 0)) (sCons (sC (.str "BadProgram")) sNil)))) sNil))))))
  (sSeq (sSet 1 (sOp opAdd (sHn 1) (sHv (sFz (sLs (sCons (sTup (sCons (sErr 3 (sVar 0)) (sCons (sErr 3 (sVar 0)) (sCons (sC (.str "BadInputs")) sNil)))) sNil))))))
  (sSeq (sSet 1 (sOp opAdd (sHn 1) (sHv (sFz (sLs (sCons (sTup (sCons (sErr 4 (sVar 0)) (sCons (sErr 4 (sVar 0)) (sCons (sC (.str "BadWorld")) sNil)))) sNil))))))
  (sSeq (sSet 1 (sOp opAdd (sHn 1) (sHv (sFz (sLs (sCons (sTup (sCons (sErr 5 (sVar 0)) (sCons (sErr 5 (sVar 0)) (sCons (sC (.str "BadValue")) sNil)))) sNil))))))
  (sSeq (sSet 1 (sOp opAdd (sHn 1) (sHv (sFz (sLs (sCons (sTup (sCons (sErr 6 (sVar 0)) (sCons (sErr 6 (sVar 0)) (sCons (sC (.str "BadTable")) sNil)))) sNil))))))
  (sSeq (sSet 1 (sOp opAdd (sHn 1) (sHv (sFz (sLs (sCons (sTup (sCons (sErr 7 (sVar 0)) (sCons (sErr 7 (sVar 0)) (sCons (sC (.str "BadTests")) sNil)))) sNil))))))
  (sSeq (sSet 1 (sOp opAdd (sHn 1) (sHv (sFz (sLs (sCons (sTup (sCons (sErr 8 (sVar 0)) (sCons (sErr 8 (sVar 0)) (sCons (sC (.str "BadCode")) sNil)))) sNil))))))
  (sSeq (sSet 1 (sOp opAdd (sHn 1) (sHv (sFz (sLs (sCons (sTup (sCons (sErr 9 (sVar 0)) (sCons (sErr 9 (sVar 0)) (sCons (sC (.str "BadText")) sNil)))) sNil))))))
  (sSeq (sSet 1 (sOp opAdd (sHn 1) (sHv (sFz (sLs (sCons (sTup (sCons (sErr 12 (sVar 0)) (sCons (sErr 12 (sVar 0)) (sCons (sC (.str "BadPaper")) sNil)))) sNil))))))
  (sSeq (sSet 1 (sOp opAdd (sHn 1) (sHv (sFz (sLs (sCons (sTup (sCons (sErr 13 (sVar 0)) (sCons (sErr 13 (sVar 0)) (sCons (sC (.str "BadDeed")) sNil)))) sNil))))))
  (sRet (sOp opAdd (sHn 1) (sHv (sFz (sLs (sCons (sTup (sCons (sErr 14 (sVar 0)) (sCons (sErr 14 (sVar 0)) (sCons (sC (.str "BadHelpers")) sNil)))) sNil))))))))))))))))))
def lb_6_0 (φ : Nat → FT) : SS → OS := (sSeq (sIfS (sOrT (sB (sOp cNe (sHv (sCall (φ 3) [] (sACons (sAv (sVar 1)) sANil))) (sHv (sFz (sLs (sCons (sVar 3) (sCons (sC (.str "base")) (sCons (sC (.str "value")) sNil)))))))) (sB (sOp cNe (sHv (sCall (φ 3) [] (sACons (sAv (sVar 2)) sANil))) (sHv (sFz (sLs (sCons (sVar 3) (sCons (sC (.str "base")) (sCons (sC (.str "value")) sNil))))))))) (sRet (sC (.bl false))) (fun σ => .nx σ))
  (sIfS (sOrT (sB (sOp cNe (sHv (sFldE fs_value (sHn 1))) (sHn 0))) (sB (sOp cNe (sHv (sFldE fs_value (sHn 2))) (sHn 0)))) (sRet (sC (.bl false))) (fun σ => .nx σ)))
def lb_6_1 (φ : Nat → FT) : SS → OS := (sSeq (sIfS (sOrT (sB (sOp cNe (sHv (sCall (φ 3) [] (sACons (sAv (sVar 1)) sANil))) (sHv (sFz (sLs (sCons (sVar 3) (sCons (sC (.str "base")) (sCons (sC (.str "value")) sNil)))))))) (sB (sOp cNe (sHv (sCall (φ 3) [] (sACons (sAv (sVar 2)) sANil))) (sHv (sFz (sLs (sCons (sVar 3) (sCons (sC (.str "base")) (sCons (sC (.str "value")) sNil))))))))) (sRet (sC (.bl false))) (fun σ => .nx σ))
  (sIfS (sOrT (sB (sOp cNe (sHv (sFldE fs_place (sHn 1))) (sHn 0))) (sB (sOp cNe (sHv (sFldE fs_place (sHn 2))) (sHn 0)))) (sRet (sC (.bl false))) (fun σ => .nx σ)))
def lb_6_2 (φ : Nat → FT) : SS → OS := (sIfS (sOrT (sB (sOp cNe (sHv (sCall (φ 3) [] (sACons (sAv (sVar 1)) sANil))) (sHv (sFz (sLs (sCons (sC (.str "NoSuch")) (sCons (sC (.str "lookup")) sNil))))))) (sB (sOp cNe (sHv (sFldE fs_value (sHn 1))) (sHn 0)))) (sRet (sC (.bl false))) (fun σ => .nx σ))
def lb_6_3 (φ : Nat → FT) : SS → OS := (sIfS (sOrT (sB (sOp cNe (sHv (sCall (φ 3) [] (sACons (sAv (sVar 1)) sANil))) (sHv (sFz (sLs (sCons (sC (.str "TooMany")) (sCons (sC (.str "overflow")) sNil))))))) (sB (sOp cNe (sHv (sFldE fs_most (sHn 1))) (sHn 0)))) (sRet (sC (.bl false))) (fun σ => .nx σ))
/-- _law_right -/
def m_6 (φ : Nat → FT) : SS → OS := (sSeq (sFor (sItL (sCall (φ 4) [] (sACons (sAv (sVar 0)) sANil))) (gT (gC (gN 1) (gC (gN 2) (gC (gN 3) gZ)))) (lb_6_0 φ))
  (sSeq (sFor (sItL (sCall (φ 5) [] (sACons (sAv (sVar 0)) sANil))) (gT (gC (gN 1) (gC (gN 2) (gC (gN 3) gZ)))) (lb_6_1 φ))
  (sSeq (sFor (sItT (sTup (sCons (sErr 16 (sVar 0)) (sCons (sErr 16 (sVar 0)) sNil)))) (gN 1) (lb_6_2 φ))
  (sSeq (sFor (sItT (sTup (sCons (sErr 15 (sVar 0)) (sCons (sErr 15 (sVar 0)) sNil)))) (gN 1) (lb_6_3 φ))
  (sRet (sC (.bl true)))))))
def lb_7_0 (φ : Nat → FT) : SS → OS := (sSeq (sOwnM 6 (sCallM (φ 1) [] (sACons (sAv (sVar 2)) (sACons (sAv (sVar 1)) sANil))))
  (sSeq (sSet 7 (sCall (φ 2) [] (sACons (sAs 6) (sACons (sAv (sC (.int 100000))) sANil))))
  (sSeq (sSet 3 (sFz (sLs (sCons (sVar 7) (sCons (sOp opSub (sHv (sC (.int 0))) (sHn 7)) (sCons (sOp opMul (sHv (sC (.str "ab"))) (sHv (sOp opMod (sHn 7) (sHv (sC (.int 50)))))) (sCons (sTup (sCons (sC (.str "atom")) (sCons (sTup (sCons (sC (.int 0)) (sCons (sVar 7) sNil))) sNil))) (sCons (sC .non) (sCons (sTup (sCons (sOp opPow (sHv (sC (.int 10))) (sHv (sC (.int 30)))) (sCons (sTup sNil) sNil))) (sCons (sOp opMul (sHv (sTup (sCons (sVar 7) sNil))) (sHv (sC (.int 9)))) sNil))))))))))
  (sIfS (sOrT (sNotT (sTru (sHv (sCall (φ 6) [] (sACons (sAv (sOp opIx (sHn 3) (sHv (sCall (φ 2) [] (sACons (sAs 6) (sACons (sAv (sC (.int 7))) sANil)))))) sANil))))) (sNotT (sTru (sHv (sCall (φ 6) [] (sACons (sAv (sOp opPow (sHv (sOp opPow (sHv (sOp opPow (sHv (sC (.int 10))) (sHv (sC (.int 50))))) (sHv (sC (.int 50))))) (sHv (sC (.int 2))))) sANil)))))) (sRet (sC (.bl false))) (fun σ => .nx σ)))))
def lb_7_1 (φ : Nat → FT) : SS → OS := (sSeq (sSet 8 (sOp opAdd (sHv (sFz (sLc [10, 11, 12] (sItL (sOp opAdd (sHv (sCall (φ 4) [] (sACons (sAv (sVar 5)) sANil))) (sHv (sCall (φ 5) [] (sACons (sAv (sVar 5)) sANil))))) (gT (gC (gN 10) (gC (gN 11) (gC (gN 12) gZ)))) sYes (sVar 10)))) (sHv (sFz (sLs (sCons (sErr 16 (sVar 5)) (sCons (sErr 15 (sVar 5)) sNil)))))))
  (sIfS (sB (sOp cNe (sHv (sFz (sLc [9] (sItL (sVar 8)) (gN 9) (sB (sOp cIn (sHv (sUn (fStr okc cm_) (sHn 5))) (sHv (sUn (fStr okc cm_) (sHn 9))))) (sVar 9)))) (sHv (sFz (sLs sNil))))) (sRet (sC (.bl false))) (fun σ => .nx σ)))
/-- law -/
def m_7 (φ : Nat → FT) : SS → OS := (sSeq (sFor (sEnum (sOp opAdd (sHv (sSl (sHn 0) (fun σ => .ok none σ) (sPart (sC (.int 4))))) (sHv (sFz (sLs (sCons (sUn fSum (sHn 0)) sNil)))))) (gT (gC (gN 1) (gC (gN 2) gZ))) (lb_7_0 φ))
  (sSeq (sSet 3 (sFz (sLs (sCons (sErr 10 (sC .non)) (sCons (sErr 11 (sC .non)) (sCons (sErr 16 (sC .non)) sNil))))))
  (sSeq (sSet 4 (sFz (sLs (sCons (sErr 0 (sC .non)) (sCons (sErr 1 (sC .non)) (sCons (sErr 2 (sC .non)) (sCons (sErr 3 (sC .non)) (sCons (sErr 4 (sC .non)) (sCons (sErr 5 (sC .non)) (sCons (sErr 6 (sC .non)) sNil))))))))))
  (sSeq (sSet 4 (sOp opAdd (sHn 4) (sHv (sFz (sLs (sCons (sErr 7 (sC .non)) (sCons (sErr 8 (sC .non)) (sCons (sErr 9 (sC .non)) (sCons (sErr 12 (sC .non)) (sCons (sErr 13 (sC .non)) (sCons (sErr 14 (sC .non)) sNil)))))))))))
  (sSeq (sIfS (sOrT (sB (sOp cNe (sHv (sFz (sLc [9] (sItL (sVar 3)) (gN 9) sYes (sFldE fs_value (sHn 9))))) (sHv (sFz (sRep (sLs (sCons (sC .non) sNil)) (sC (.int 3))))))) (sB (sOp cNe (sHv (sFz (sLc [9] (sItL (sVar 4)) (gN 9) sYes (sFldE fs_place (sHn 9))))) (sHv (sFz (sRep (sLs (sCons (sC .non) sNil)) (sC (.int 13)))))))) (sRet (sC (.bl false))) (fun σ => .nx σ))
  (sSeq (sFor (sItT (sTup (sCons (sC (.str "zqzq")) (sCons (sOp opPow (sHv (sC (.int 10))) (sHv (sC (.int 30)))) (sCons (sC (.int 70707)) sNil))))) (gN 5) (lb_7_1 φ))
  (sRet (sC (.bl true)))))))))
def Φ : Nat → Nat → FT
  | 0 => fun _ _ => .bad
  | k + 1 => fun i => match i with
    | 0 => runB 3 2 (m_0 (Φ k))
    | 1 => runB 2 2 (m_1 (Φ k))
    | 2 => runB 4 2 (m_2 (Φ k))
    | 3 => runB 4 1 (m_3 (Φ k))
    | 4 => runB 2 1 (m_4 (Φ k))
    | 5 => runB 2 1 (m_5 (Φ k))
    | 6 => runB 4 1 (m_6 (Φ k))
    | 7 => runB 13 1 (m_7 (Φ k))
    | _ => fun _ => .bad
def psT : Nat → List Str
  | 0 => ["cell", "k"]
  | 1 => ["cell", "k"]
  | 2 => ["state", "below"]
  | 3 => ["e"]
  | 4 => ["thing"]
  | 5 => ["thing"]
  | 6 => ["thing"]
  | 7 => ["script"]
  | _ => []
/-! what the top has written -/
structure Txt (P : Program) (w : World) (K : PySem.W.Frag) (mg : Str → Option Value) (base : Heap) (fa : Nat → Addr) (fd : Nat → FuncData) (ca ci : Nat → Addr) (cd : Nat → FuncData) (aS : Addr) : Prop where
  g_0 : mg "_law_mixed" = some (.ref (fa 0))
  kp_0 : PySem.W.keepIn K (.ref (fa 0)) = true
  b_0 : Binds K (fd 0) ["cell", "k"] []
  g_1 : mg "_law_draw" = some (.ref (fa 1))
  kp_1 : PySem.W.keepIn K (.ref (fa 1)) = true
  b_1 : Binds K (fd 1) ["cell", "k"] []
  g_2 : mg "_law_digit" = some (.ref (fa 2))
  kp_2 : PySem.W.keepIn K (.ref (fa 2)) = true
  b_2 : Binds K (fd 2) ["state", "below"] []
  g_3 : mg "_law_kinds" = some (.ref (fa 3))
  kp_3 : PySem.W.keepIn K (.ref (fa 3)) = true
  b_3 : Binds K (fd 3) ["e"] []
  g_4 : mg "_law_valued" = some (.ref (fa 4))
  kp_4 : PySem.W.keepIn K (.ref (fa 4)) = true
  b_4 : Binds K (fd 4) ["thing"] []
  g_5 : mg "_law_placed" = some (.ref (fa 5))
  kp_5 : PySem.W.keepIn K (.ref (fa 5)) = true
  b_5 : Binds K (fd 5) ["thing"] []
  g_6 : mg "_law_right" = some (.ref (fa 6))
  kp_6 : PySem.W.keepIn K (.ref (fa 6)) = true
  b_6 : Binds K (fd 6) ["thing"] []
  g_7 : mg "law" = some (.ref (fa 7))
  kp_7 : PySem.W.keepIn K (.ref (fa 7)) = true
  b_7 : Binds K (fd 7) ["script"] []
  n_LookupError : mg "LookupError" = none
  n_OverflowError : mg "OverflowError" = none
  n_ValueError : mg "ValueError" = none
  n_enumerate : mg "enumerate" = none
  n_isinstance : mg "isinstance" = none
  n_range : mg "range" = none
  n_str : mg "str" = none
  n_sum : mg "sum" = none
  gS : mg "SameError" = some (.ref aS)
  gc_0 : mg "BadType" = some (.ref (ca 0))
  c_0 : CAll P w K mg base (ca 0) (ci 0) "place" "no such type" "place" 0 true (cd 0)
  gc_1 : mg "BadTerm" = some (.ref (ca 1))
  c_1 : CAll P w K mg base (ca 1) (ci 1) "place" "no such term" "place" 0 true (cd 1)
  gc_2 : mg "BadProgram" = some (.ref (ca 2))
  c_2 : CAll P w K mg base (ca 2) (ci 2) "place" "no such program" "place" 0 true (cd 2)
  gc_3 : mg "BadInputs" = some (.ref (ca 3))
  c_3 : CAll P w K mg base (ca 3) (ci 3) "place" "no such inputs" "place" 0 true (cd 3)
  gc_4 : mg "BadWorld" = some (.ref (ca 4))
  c_4 : CAll P w K mg base (ca 4) (ci 4) "place" "no such world" "place" 0 true (cd 4)
  gc_5 : mg "BadValue" = some (.ref (ca 5))
  c_5 : CAll P w K mg base (ca 5) (ci 5) "place" "no such value" "place" 0 true (cd 5)
  gc_6 : mg "BadTable" = some (.ref (ca 6))
  c_6 : CAll P w K mg base (ca 6) (ci 6) "place" "no such table" "place" 0 true (cd 6)
  gc_7 : mg "BadTests" = some (.ref (ca 7))
  c_7 : CAll P w K mg base (ca 7) (ci 7) "place" "no such tests" "place" 0 true (cd 7)
  gc_8 : mg "BadCode" = some (.ref (ca 8))
  c_8 : CAll P w K mg base (ca 8) (ci 8) "place" "no such code" "place" 0 true (cd 8)
  gc_9 : mg "BadText" = some (.ref (ca 9))
  c_9 : CAll P w K mg base (ca 9) (ci 9) "place" "no such text" "place" 0 true (cd 9)
  gc_10 : mg "BadNumber" = some (.ref (ca 10))
  c_10 : CAll P w K mg base (ca 10) (ci 10) "value" "no such number" "value" 0 true (cd 10)
  gc_11 : mg "BadLetter" = some (.ref (ca 11))
  c_11 : CAll P w K mg base (ca 11) (ci 11) "value" "no such letter" "value" 0 true (cd 11)
  gc_12 : mg "BadPaper" = some (.ref (ca 12))
  c_12 : CAll P w K mg base (ca 12) (ci 12) "place" "no such paper" "place" 0 true (cd 12)
  gc_13 : mg "BadDeed" = some (.ref (ca 13))
  c_13 : CAll P w K mg base (ca 13) (ci 13) "place" "no such deed" "place" 0 true (cd 13)
  gc_14 : mg "BadHelpers" = some (.ref (ca 14))
  c_14 : CAll P w K mg base (ca 14) (ci 14) "place" "no such helpers" "place" 0 true (cd 14)
  gc_15 : mg "TooMany" = some (.ref (ca 15))
  c_15 : CAll P w K mg base (ca 15) (ci 15) "most" "too many" "most" 1 false (cd 15)
  gc_16 : mg "NoSuch" = some (.ref (ca 16))
  c_16 : CAll P w K mg base (ca 16) (ci 16) "value" "nothing so called" "value" 2 true (cd 16)
  q_BadCode : ∀ i b, q_BadCode i = some b → EkC K (ca i) ∧ PySem.W.kitOne K (.ref (ca i)) (.ref (ca 8)) = some b
  q_BadDeed : ∀ i b, q_BadDeed i = some b → EkC K (ca i) ∧ PySem.W.kitOne K (.ref (ca i)) (.ref (ca 13)) = some b
  q_BadHelpers : ∀ i b, q_BadHelpers i = some b → EkC K (ca i) ∧ PySem.W.kitOne K (.ref (ca i)) (.ref (ca 14)) = some b
  q_BadInputs : ∀ i b, q_BadInputs i = some b → EkC K (ca i) ∧ PySem.W.kitOne K (.ref (ca i)) (.ref (ca 3)) = some b
  q_BadLetter : ∀ i b, q_BadLetter i = some b → EkC K (ca i) ∧ PySem.W.kitOne K (.ref (ca i)) (.ref (ca 11)) = some b
  q_BadNumber : ∀ i b, q_BadNumber i = some b → EkC K (ca i) ∧ PySem.W.kitOne K (.ref (ca i)) (.ref (ca 10)) = some b
  q_BadPaper : ∀ i b, q_BadPaper i = some b → EkC K (ca i) ∧ PySem.W.kitOne K (.ref (ca i)) (.ref (ca 12)) = some b
  q_BadProgram : ∀ i b, q_BadProgram i = some b → EkC K (ca i) ∧ PySem.W.kitOne K (.ref (ca i)) (.ref (ca 2)) = some b
  q_BadTable : ∀ i b, q_BadTable i = some b → EkC K (ca i) ∧ PySem.W.kitOne K (.ref (ca i)) (.ref (ca 6)) = some b
  q_BadTerm : ∀ i b, q_BadTerm i = some b → EkC K (ca i) ∧ PySem.W.kitOne K (.ref (ca i)) (.ref (ca 1)) = some b
  q_BadTests : ∀ i b, q_BadTests i = some b → EkC K (ca i) ∧ PySem.W.kitOne K (.ref (ca i)) (.ref (ca 7)) = some b
  q_BadText : ∀ i b, q_BadText i = some b → EkC K (ca i) ∧ PySem.W.kitOne K (.ref (ca i)) (.ref (ca 9)) = some b
  q_BadType : ∀ i b, q_BadType i = some b → EkC K (ca i) ∧ PySem.W.kitOne K (.ref (ca i)) (.ref (ca 0)) = some b
  q_BadValue : ∀ i b, q_BadValue i = some b → EkC K (ca i) ∧ PySem.W.kitOne K (.ref (ca i)) (.ref (ca 5)) = some b
  q_BadWorld : ∀ i b, q_BadWorld i = some b → EkC K (ca i) ∧ PySem.W.kitOne K (.ref (ca i)) (.ref (ca 4)) = some b
  q_LookupError : ∀ i b, q_LookupError i = some b → EkC K (ca i) ∧ PySem.W.kitOne K (.ref (ca i)) (.type "LookupError") = some b
  q_NoSuch : ∀ i b, q_NoSuch i = some b → EkC K (ca i) ∧ PySem.W.kitOne K (.ref (ca i)) (.ref (ca 16)) = some b
  q_OverflowError : ∀ i b, q_OverflowError i = some b → EkC K (ca i) ∧ PySem.W.kitOne K (.ref (ca i)) (.type "OverflowError") = some b
  q_SameError : ∀ i b, q_SameError i = some b → EkC K (ca i) ∧ PySem.W.kitOne K (.ref (ca i)) (.ref aS) = some b
  q_TooMany : ∀ i b, q_TooMany i = some b → EkC K (ca i) ∧ PySem.W.kitOne K (.ref (ca i)) (.ref (ca 15)) = some b
  q_ValueError : ∀ i b, q_ValueError i = some b → EkC K (ca i) ∧ PySem.W.kitOne K (.ref (ca i)) (.type "ValueError") = some b
  fq_most : ∀ c, fs_most c = true → cf_ c = "most" ∧ XfC K (ca c) ∧ PySem.W.findIn K (.ref (ca c)) "most" = some none
  fq_place : ∀ c, fs_place c = true → cf_ c = "place" ∧ XfC K (ca c) ∧ PySem.W.findIn K (.ref (ca c)) "place" = some none
  fq_value : ∀ c, fs_value c = true → cf_ c = "value" ∧ XfC K (ca c) ∧ PySem.W.findIn K (.ref (ca c)) "value" = some none
  strq : ∀ c, okc c = true → PySem.W.findIn K (.ref (ca c)) "__str__" = some (some (.builtin "BaseException.__str__")) ∧ PySem.W.subIn K (.ref (ca c)) (.type "BaseException") = some true
section
variable {P : Program} {w : World} {K : PySem.W.Frag} {mg : Str → Option Value} {base : Heap} {fa : Nat → Addr} {fd : Nat → FuncData} {ca ci : Nat → Addr} {cd : Nat → FuncData} {aS : Addr} {k : Nat} {φ : Nat → FT}
theorem d_0 (T : Txt P w K mg base fa fd ca ci cd aS) (ih : ∀ j, j < 8 → FnT P w K mg base (cn K ca) k (fa j) (fd j) (psT j) (φ j)) {f : Addr} {cdv : Value} {A : Around} {outer : List Env} {s : Shared} {H : Hp} {E : XK} (hr : TRoom k (A.deeper (envOfC "_law_mixed" (defScope s_0) s.heap.objs.size f cdv))) :
    MSs (cxOf (CX P w) P w K mg base N_0 "_law_mixed" (defScope s_0) f cdv A outer s H E) (cn K ca) (defBody s_0) (m_0 φ) := by
  have sc := sc_0
  exact (mss_cons (ms_set 2 sc.nd rfl (by first | exact Or.inl rfl | exact Or.inr rfl) (me_op (fun _ => op_addD rfl) (mh_val (me_op (fun _ => op_addD rfl) (mh_val (me_op (fun _ => op_modD) (mh_name 0) (mh_val (me_ix rfl (mh_val (me_fz (mf_ls (ma_cons me_int (ma_cons me_int (ma_cons me_int (ma_cons me_int ma_nil))))))) (mh_val (me_op (fun _ => op_modD) (mh_name 1) (mh_val me_int))) (fun _ _ => rfl))))) (mh_val (me_op (fun _ => op_mulD rfl) (mh_val me_int) (mh_name 1))))) (mh_val me_int)))
  (mss_one (ms_ret (me_op (fun _ => op_modD) (mh_val (me_op (fun _ => op_mulD rfl) (mh_val (me_op (fun _ => op_modD) (mh_val (me_op (fun _ => op_mulD rfl) (mh_name 2) (mh_name 2))) (mh_val me_int))) (mh_val me_int))) (mh_val me_int)))))
theorem d_1 (T : Txt P w K mg base fa fd ca ci cd aS) (ih : ∀ j, j < 8 → FnT P w K mg base (cn K ca) k (fa j) (fd j) (psT j) (φ j)) {f : Addr} {cdv : Value} {A : Around} {outer : List Env} {s : Shared} {H : Hp} {E : XK} (hr : TRoom k (A.deeper (envOfC "_law_draw" (defScope s_1) s.heap.objs.size f cdv))) :
    MSs (cxOf (CX P w) P w K mg base N_1 "_law_draw" (defScope s_1) f cdv A outer s H E) (cn K ca) (defBody s_1) (m_1 φ) := by
  have sc := sc_1
  exact (mss_one (ms_retM (mc_dict (md_cons (me_ifExp (mt_cmp (fun _ => op_geD) (mh_name 0) (mh_val (me_op (fun _ => op_powD) (mh_val me_int) (mh_val me_int))) (by rfl)) (me_var 0) me_int) (md_cons (me_var 0) (md_cons (me_op (fun _ => op_mulD rfl) (mh_val me_int) (mh_name 1)) md_nil))) (by decide) (by decide) rfl rfl (by simp) (by decide))))
theorem d_2 (T : Txt P w K mg base fa fd ca ci cd aS) (ih : ∀ j, j < 8 → FnT P w K mg base (cn K ca) k (fa j) (fd j) (psT j) (φ j)) {f : Addr} {cdv : Value} {A : Around} {outer : List Env} {s : Shared} {H : Hp} {E : XK} (hr : TRoom k (A.deeper (envOfC "_law_digit" (defScope s_2) s.heap.objs.size f cdv))) :
    MSs (cxOf (CX P w) P w K mg base N_2 "_law_digit" (defScope s_2) f cdv A outer s H E) (cn K ca) (defBody s_2) (m_2 φ) := by
  have sc := sc_2
  exact (mss_cons (ms_if (mt_cmp (fun _ => op_eqT rfl hr) (mh_val (me_dget 0 rfl (by first | exact Or.inl rfl | exact Or.inr (Or.inl rfl) | exact Or.inr (Or.inr rfl)) hr me_str (fun _ _ => rfl))) (mh_val me_int) (by rfl)) (mss_one (ms_for rfl (mi_range1 rfl T.n_range me_int) (mg_name 3 sc.nd rfl (by first | exact Or.inl rfl | exact Or.inr rfl)) (mss_cons (ms_dput 0 rfl (by first | exact Or.inl rfl | exact Or.inr (Or.inl rfl) | exact Or.inr (Or.inr rfl)) hr me_str (me_op (fun _ => op_addD rfl) (mh_val (me_dget 0 rfl (by first | exact Or.inl rfl | exact Or.inr (Or.inl rfl) | exact Or.inr (Or.inr rfl)) hr me_str (fun _ _ => rfl))) (mh_val me_int)))
  (mss_one (ms_dput 0 rfl (by first | exact Or.inl rfl | exact Or.inr (Or.inl rfl) | exact Or.inr (Or.inr rfl)) hr me_str (me_op (fun _ => op_addD rfl) (mh_val (me_op (fun _ => op_mulD rfl) (mh_val (me_dget 0 rfl (by first | exact Or.inl rfl | exact Or.inr (Or.inl rfl) | exact Or.inr (Or.inr rfl)) hr me_str (fun _ _ => rfl))) (mh_val me_int))) (mh_val (me_call (ih 0 (by decide)) hr rfl T.g_0 T.kp_0 T.b_0 .nil (fun _ => .nil) (mv_cons (m1_val (me_dget 0 rfl (by first | exact Or.inl rfl | exact Or.inr (Or.inl rfl) | exact Or.inr (Or.inr rfl)) hr me_str (fun _ _ => rfl))) (mv_cons (m1_val (me_dget 0 rfl (by first | exact Or.inl rfl | exact Or.inr (Or.inl rfl) | exact Or.inr (Or.inr rfl)) hr me_str (fun _ _ => rfl))) mv_nil)))))))))) mss_nil)
  (mss_cons (ms_set 2 sc.nd rfl (by first | exact Or.inl rfl | exact Or.inr rfl) (me_op (fun _ => op_modD) (mh_val (me_dget 0 rfl (by first | exact Or.inl rfl | exact Or.inr (Or.inl rfl) | exact Or.inr (Or.inr rfl)) hr me_str (fun _ _ => rfl))) (mh_name 1)))
  (mss_cons (ms_dput 0 rfl (by first | exact Or.inl rfl | exact Or.inr (Or.inl rfl) | exact Or.inr (Or.inr rfl)) hr me_str (me_op (fun _ => op_fdivD) (mh_val (me_dget 0 rfl (by first | exact Or.inl rfl | exact Or.inr (Or.inl rfl) | exact Or.inr (Or.inr rfl)) hr me_str (fun _ _ => rfl))) (mh_name 1)))
  (mss_one (ms_ret (me_var 2))))))
theorem d_3 (T : Txt P w K mg base fa fd ca ci cd aS) (ih : ∀ j, j < 8 → FnT P w K mg base (cn K ca) k (fa j) (fd j) (psT j) (φ j)) {f : Addr} {cdv : Value} {A : Around} {outer : List Env} {s : Shared} {H : Hp} {E : XK} (hr : TRoom k (A.deeper (envOfC "_law_kinds" (defScope s_3) s.heap.objs.size f cdv))) :
    MSs (cxOf (CX P w) P w K mg base N_3 "_law_kinds" (defScope s_3) f cdv A outer s H E) (cn K ca) (defBody s_3) (m_3 φ) := by
  have sc := sc_3
  exact (mss_cons (ms_set 1 sc.nd rfl (by first | exact Or.inl rfl | exact Or.inr rfl) (me_fz (mf_ls (ma_cons (me_tup (ma_cons me_str (ma_cons (me_isO rfl T.q_BadCode rfl T.n_isinstance rfl T.gc_8 (mh_name 0)) ma_nil))) (ma_cons (me_tup (ma_cons me_str (ma_cons (me_isO rfl T.q_BadDeed rfl T.n_isinstance rfl T.gc_13 (mh_name 0)) ma_nil))) ma_nil)))))
  (mss_cons (ms_set 1 sc.nd rfl (by first | exact Or.inl rfl | exact Or.inr rfl) (me_op (fun _ => op_addD rfl) (mh_name 1) (mh_val (me_fz (mf_ls (ma_cons (me_tup (ma_cons me_str (ma_cons (me_isO rfl T.q_BadHelpers rfl T.n_isinstance rfl T.gc_14 (mh_name 0)) ma_nil))) (ma_cons (me_tup (ma_cons me_str (ma_cons (me_isO rfl T.q_BadInputs rfl T.n_isinstance rfl T.gc_3 (mh_name 0)) ma_nil))) ma_nil)))))))
  (mss_cons (ms_set 1 sc.nd rfl (by first | exact Or.inl rfl | exact Or.inr rfl) (me_op (fun _ => op_addD rfl) (mh_name 1) (mh_val (me_fz (mf_ls (ma_cons (me_tup (ma_cons me_str (ma_cons (me_isO rfl T.q_BadLetter rfl T.n_isinstance rfl T.gc_11 (mh_name 0)) ma_nil))) (ma_cons (me_tup (ma_cons me_str (ma_cons (me_isO rfl T.q_BadNumber rfl T.n_isinstance rfl T.gc_10 (mh_name 0)) ma_nil))) ma_nil)))))))
  (mss_cons (ms_set 1 sc.nd rfl (by first | exact Or.inl rfl | exact Or.inr rfl) (me_op (fun _ => op_addD rfl) (mh_name 1) (mh_val (me_fz (mf_ls (ma_cons (me_tup (ma_cons me_str (ma_cons (me_isO rfl T.q_BadPaper rfl T.n_isinstance rfl T.gc_12 (mh_name 0)) ma_nil))) (ma_cons (me_tup (ma_cons me_str (ma_cons (me_isO rfl T.q_BadProgram rfl T.n_isinstance rfl T.gc_2 (mh_name 0)) ma_nil))) ma_nil)))))))
  (mss_cons (ms_set 1 sc.nd rfl (by first | exact Or.inl rfl | exact Or.inr rfl) (me_op (fun _ => op_addD rfl) (mh_name 1) (mh_val (me_fz (mf_ls (ma_cons (me_tup (ma_cons me_str (ma_cons (me_isO rfl T.q_BadTable rfl T.n_isinstance rfl T.gc_6 (mh_name 0)) ma_nil))) (ma_cons (me_tup (ma_cons me_str (ma_cons (me_isO rfl T.q_BadTerm rfl T.n_isinstance rfl T.gc_1 (mh_name 0)) ma_nil))) ma_nil)))))))
  (mss_cons (ms_set 1 sc.nd rfl (by first | exact Or.inl rfl | exact Or.inr rfl) (me_op (fun _ => op_addD rfl) (mh_name 1) (mh_val (me_fz (mf_ls (ma_cons (me_tup (ma_cons me_str (ma_cons (me_isO rfl T.q_BadTests rfl T.n_isinstance rfl T.gc_7 (mh_name 0)) ma_nil))) (ma_cons (me_tup (ma_cons me_str (ma_cons (me_isO rfl T.q_BadText rfl T.n_isinstance rfl T.gc_9 (mh_name 0)) ma_nil))) ma_nil)))))))
  (mss_cons (ms_set 1 sc.nd rfl (by first | exact Or.inl rfl | exact Or.inr rfl) (me_op (fun _ => op_addD rfl) (mh_name 1) (mh_val (me_fz (mf_ls (ma_cons (me_tup (ma_cons me_str (ma_cons (me_isO rfl T.q_BadType rfl T.n_isinstance rfl T.gc_0 (mh_name 0)) ma_nil))) (ma_cons (me_tup (ma_cons me_str (ma_cons (me_isO rfl T.q_BadValue rfl T.n_isinstance rfl T.gc_5 (mh_name 0)) ma_nil))) ma_nil)))))))
  (mss_cons (ms_set 1 sc.nd rfl (by first | exact Or.inl rfl | exact Or.inr rfl) (me_op (fun _ => op_addD rfl) (mh_name 1) (mh_val (me_fz (mf_ls (ma_cons (me_tup (ma_cons me_str (ma_cons (me_isO rfl T.q_BadWorld rfl T.n_isinstance rfl T.gc_4 (mh_name 0)) ma_nil))) (ma_cons (me_tup (ma_cons me_str (ma_cons (me_isO rfl T.q_NoSuch rfl T.n_isinstance rfl T.gc_16 (mh_name 0)) ma_nil))) ma_nil)))))))
  (mss_cons (ms_set 1 sc.nd rfl (by first | exact Or.inl rfl | exact Or.inr rfl) (me_op (fun _ => op_addD rfl) (mh_name 1) (mh_val (me_fz (mf_ls (ma_cons (me_tup (ma_cons me_str (ma_cons (me_isO rfl T.q_TooMany rfl T.n_isinstance rfl T.gc_15 (mh_name 0)) ma_nil))) ma_nil))))))
  (mss_cons (ms_set 1 sc.nd rfl (by first | exact Or.inl rfl | exact Or.inr rfl) (me_op (fun _ => op_addD rfl) (mh_name 1) (mh_val (me_fz (mf_ls (ma_cons (me_tup (ma_cons me_str (ma_cons (me_isO rfl T.q_SameError rfl T.n_isinstance rfl T.gS (mh_name 0)) ma_nil))) (ma_cons (me_tup (ma_cons me_str (ma_cons (me_isB rfl T.q_ValueError rfl T.n_isinstance rfl T.n_ValueError rfl (mh_name 0)) ma_nil))) ma_nil)))))))
  (mss_cons (ms_set 1 sc.nd rfl (by first | exact Or.inl rfl | exact Or.inr rfl) (me_op (fun _ => op_addD rfl) (mh_name 1) (mh_val (me_fz (mf_ls (ma_cons (me_tup (ma_cons me_str (ma_cons (me_isB rfl T.q_LookupError rfl T.n_isinstance rfl T.n_LookupError rfl (mh_name 0)) ma_nil))) (ma_cons (me_tup (ma_cons me_str (ma_cons (me_isB rfl T.q_OverflowError rfl T.n_isinstance rfl T.n_OverflowError rfl (mh_name 0)) ma_nil))) ma_nil)))))))
  (mss_one (ms_ret (me_fz (mf_lc (own := [("word", 2), ("is_so", 3)]) (vs := [2, 3]) rfl sc.nd rfl (by decide) (by show ∀ v ∈ ([2, 3] : List Nat), v < 4; decide) (by decide) (mi_list rfl (me_var 1)) (blkOk_by (own := [("word", 2), ("is_so", 3)]) (N := N_3) (sc := defScope s_3) (by decide +kernel)) (fun _ _ _ _ _ => (mg_tup rfl rfl (mgs_cons (mg_name 2 sc.nd rfl (by first | exact Or.inl rfl | exact Or.inr rfl)) (mgs_cons (mg_name 3 sc.nd rfl (by first | exact Or.inl rfl | exact Or.inr rfl)) mgs_nil)) (gC_len (gC_len (fun _ _ _ h => gZ_len h))))) (fun _ _ _ _ _ => (mif_one (mt_tru rfl (mh_name 3)))) (fun _ _ _ _ _ => (me_var 2)))))))))))))))))
theorem d_4 (T : Txt P w K mg base fa fd ca ci cd aS) (ih : ∀ j, j < 8 → FnT P w K mg base (cn K ca) k (fa j) (fd j) (psT j) (φ j)) {f : Addr} {cdv : Value} {A : Around} {outer : List Env} {s : Shared} {H : Hp} {E : XK} (hr : TRoom k (A.deeper (envOfC "_law_valued" (defScope s_4) s.heap.objs.size f cdv))) :
    MSs (cxOf (CX P w) P w K mg base N_4 "_law_valued" (defScope s_4) f cdv A outer s H E) (cn K ca) (defBody s_4) (m_4 φ) := by
  have sc := sc_4
  exact (mss_cons (ms_set 1 sc.nd rfl (by first | exact Or.inl rfl | exact Or.inr rfl) (me_fz (mf_ls (ma_cons (me_tup (ma_cons (me_err (k := 10) T.c_10.z hr rfl rfl rfl T.gc_10 T.c_10.pos rfl (me_var 0)) (ma_cons (me_errK (k := 10) T.c_10.z hr rfl rfl rfl T.gc_10 T.c_10.kw (me_var 0)) (ma_cons me_str ma_nil)))) ma_nil))))
  (mss_one (ms_ret (me_op (fun _ => op_addD rfl) (mh_name 1) (mh_val (me_fz (mf_ls (ma_cons (me_tup (ma_cons (me_err (k := 11) T.c_11.z hr rfl rfl rfl T.gc_11 T.c_11.pos rfl (me_var 0)) (ma_cons (me_errK (k := 11) T.c_11.z hr rfl rfl rfl T.gc_11 T.c_11.kw (me_var 0)) (ma_cons me_str ma_nil)))) ma_nil))))))))
theorem d_5 (T : Txt P w K mg base fa fd ca ci cd aS) (ih : ∀ j, j < 8 → FnT P w K mg base (cn K ca) k (fa j) (fd j) (psT j) (φ j)) {f : Addr} {cdv : Value} {A : Around} {outer : List Env} {s : Shared} {H : Hp} {E : XK} (hr : TRoom k (A.deeper (envOfC "_law_placed" (defScope s_5) s.heap.objs.size f cdv))) :
    MSs (cxOf (CX P w) P w K mg base N_5 "_law_placed" (defScope s_5) f cdv A outer s H E) (cn K ca) (defBody s_5) (m_5 φ) := by
  have sc := sc_5
  exact (mss_cons (ms_set 1 sc.nd rfl (by first | exact Or.inl rfl | exact Or.inr rfl) (me_fz (mf_ls (ma_cons (me_tup (ma_cons (me_err (k := 0) T.c_0.z hr rfl rfl rfl T.gc_0 T.c_0.pos rfl (me_var 0)) (ma_cons (me_errK (k := 0) T.c_0.z hr rfl rfl rfl T.gc_0 T.c_0.kw (me_var 0)) (ma_cons me_str ma_nil)))) ma_nil))))
  (mss_cons (ms_set 1 sc.nd rfl (by first | exact Or.inl rfl | exact Or.inr rfl) (me_op (fun _ => op_addD rfl) (mh_name 1) (mh_val (me_fz (mf_ls (ma_cons (me_tup (ma_cons (me_err (k := 1) T.c_1.z hr rfl rfl rfl T.gc_1 T.c_1.pos rfl (me_var 0)) (ma_cons (me_errK (k := 1) T.c_1.z hr rfl rfl rfl T.gc_1 T.c_1.kw (me_var 0)) (ma_cons me_str ma_nil)))) ma_nil))))))
  (mss_cons (ms_set 1 sc.nd rfl (by first | exact Or.inl rfl | exact Or.inr rfl) (me_op (fun _ => op_addD rfl) (mh_name 1) (mh_val (me_fz (mf_ls (ma_cons (me_tup (ma_cons (me_err (k := 2) T.c_2.z hr rfl rfl rfl T.gc_2 T.c_2.pos rfl (me_var 0)) (ma_cons (me_errK (k := 2) T.c_2.z hr rfl rfl rfl T.gc_2 T.c_2.kw (me_var 0)) (ma_cons me_str ma_nil)))) ma_nil))))))
  (mss_cons (ms_set 1 sc.nd rfl (by first | exact Or.inl rfl | exact Or.inr rfl) (me_op (fun _ => op_addD rfl) (mh_name 1) (mh_val (me_fz (mf_ls (ma_cons (me_tup (ma_cons (me_err (k := 3) T.c_3.z hr rfl rfl rfl T.gc_3 T.c_3.pos rfl (me_var 0)) (ma_cons (me_errK (k := 3) T.c_3.z hr rfl rfl rfl T.gc_3 T.c_3.kw (me_var 0)) (ma_cons me_str ma_nil)))) ma_nil))))))
  (mss_cons (ms_set 1 sc.nd rfl (by first | exact Or.inl rfl | exact Or.inr rfl) (me_op (fun _ => op_addD rfl) (mh_name 1) (mh_val (me_fz (mf_ls (ma_cons (me_tup (ma_cons (me_err (k := 4) T.c_4.z hr rfl rfl rfl T.gc_4 T.c_4.pos rfl (me_var 0)) (ma_cons (me_errK (k := 4) T.c_4.z hr rfl rfl rfl T.gc_4 T.c_4.kw (me_var 0)) (ma_cons me_str ma_nil)))) ma_nil))))))
  (mss_cons (ms_set 1 sc.nd rfl (by first | exact Or.inl rfl | exact Or.inr rfl) (me_op (fun _ => op_addD rfl) (mh_name 1) (mh_val (me_fz (mf_ls (ma_cons (me_tup (ma_cons (me_err (k := 5) T.c_5.z hr rfl rfl rfl T.gc_5 T.c_5.pos rfl (me_var 0)) (ma_cons (me_errK (k := 5) T.c_5.z hr rfl rfl rfl T.gc_5 T.c_5.kw (me_var 0)) (ma_cons me_str ma_nil)))) ma_nil))))))
  (mss_cons (ms_set 1 sc.nd rfl (by first | exact Or.inl rfl | exact Or.inr rfl) (me_op (fun _ => op_addD rfl) (mh_name 1) (mh_val (me_fz (mf_ls (ma_cons (me_tup (ma_cons (me_err (k := 6) T.c_6.z hr rfl rfl rfl T.gc_6 T.c_6.pos rfl (me_var 0)) (ma_cons (me_errK (k := 6) T.c_6.z hr rfl rfl rfl T.gc_6 T.c_6.kw (me_var 0)) (ma_cons me_str ma_nil)))) ma_nil))))))
  (mss_cons (ms_set 1 sc.nd rfl (by first | exact Or.inl rfl | exact Or.inr rfl) (me_op (fun _ => op_addD rfl) (mh_name 1) (mh_val (me_fz (mf_ls (ma_cons (me_tup (ma_cons (me_err (k := 7) T.c_7.z hr rfl rfl rfl T.gc_7 T.c_7.pos rfl (me_var 0)) (ma_cons (me_errK (k := 7) T.c_7.z hr rfl rfl rfl T.gc_7 T.c_7.kw (me_var 0)) (ma_cons me_str ma_nil)))) ma_nil))))))
  (mss_cons (ms_set 1 sc.nd rfl (by first | exact Or.inl rfl | exact Or.inr rfl) (me_op (fun _ => op_addD rfl) (mh_name 1) (mh_val (me_fz (mf_ls (ma_cons (me_tup (ma_cons (me_err (k := 8) T.c_8.z hr rfl rfl rfl T.gc_8 T.c_8.pos rfl (me_var 0)) (ma_cons (me_errK (k := 8) T.c_8.z hr rfl rfl rfl T.gc_8 T.c_8.kw (me_var 0)) (ma_cons me_str ma_nil)))) ma_nil))))))
  (mss_cons (ms_set 1 sc.nd rfl (by first | exact Or.inl rfl | exact Or.inr rfl) (me_op (fun _ => op_addD rfl) (mh_name 1) (mh_val (me_fz (mf_ls (ma_cons (me_tup (ma_cons (me_err (k := 9) T.c_9.z hr rfl rfl rfl T.gc_9 T.c_9.pos rfl (me_var 0)) (ma_cons (me_errK (k := 9) T.c_9.z hr rfl rfl rfl T.gc_9 T.c_9.kw (me_var 0)) (ma_cons me_str ma_nil)))) ma_nil))))))
  (mss_cons (ms_set 1 sc.nd rfl (by first | exact Or.inl rfl | exact Or.inr rfl) (me_op (fun _ => op_addD rfl) (mh_name 1) (mh_val (me_fz (mf_ls (ma_cons (me_tup (ma_cons (me_err (k := 12) T.c_12.z hr rfl rfl rfl T.gc_12 T.c_12.pos rfl (me_var 0)) (ma_cons (me_errK (k := 12) T.c_12.z hr rfl rfl rfl T.gc_12 T.c_12.kw (me_var 0)) (ma_cons me_str ma_nil)))) ma_nil))))))
  (mss_cons (ms_set 1 sc.nd rfl (by first | exact Or.inl rfl | exact Or.inr rfl) (me_op (fun _ => op_addD rfl) (mh_name 1) (mh_val (me_fz (mf_ls (ma_cons (me_tup (ma_cons (me_err (k := 13) T.c_13.z hr rfl rfl rfl T.gc_13 T.c_13.pos rfl (me_var 0)) (ma_cons (me_errK (k := 13) T.c_13.z hr rfl rfl rfl T.gc_13 T.c_13.kw (me_var 0)) (ma_cons me_str ma_nil)))) ma_nil))))))
  (mss_one (ms_ret (me_op (fun _ => op_addD rfl) (mh_name 1) (mh_val (me_fz (mf_ls (ma_cons (me_tup (ma_cons (me_err (k := 14) T.c_14.z hr rfl rfl rfl T.gc_14 T.c_14.pos rfl (me_var 0)) (ma_cons (me_errK (k := 14) T.c_14.z hr rfl rfl rfl T.gc_14 T.c_14.kw (me_var 0)) (ma_cons me_str ma_nil)))) ma_nil)))))))))))))))))))
theorem d_6 (T : Txt P w K mg base fa fd ca ci cd aS) (ih : ∀ j, j < 8 → FnT P w K mg base (cn K ca) k (fa j) (fd j) (psT j) (φ j)) {f : Addr} {cdv : Value} {A : Around} {outer : List Env} {s : Shared} {H : Hp} {E : XK} (hr : TRoom k (A.deeper (envOfC "_law_right" (defScope s_6) s.heap.objs.size f cdv))) :
    MSs (cxOf (CX P w) P w K mg base N_6 "_law_right" (defScope s_6) f cdv A outer s H E) (cn K ca) (defBody s_6) (m_6 φ) := by
  have sc := sc_6
  exact (mss_cons (ms_for rfl (mi_list rfl (me_call (ih 4 (by decide)) hr rfl T.g_4 T.kp_4 T.b_4 .nil (fun _ => .nil) (mv_cons (m1_val (me_var 0)) mv_nil))) (mg_tup rfl rfl (mgs_cons (mg_name 1 sc.nd rfl (by first | exact Or.inl rfl | exact Or.inr rfl)) (mgs_cons (mg_name 2 sc.nd rfl (by first | exact Or.inl rfl | exact Or.inr rfl)) (mgs_cons (mg_name 3 sc.nd rfl (by first | exact Or.inl rfl | exact Or.inr rfl)) mgs_nil))) (gC_len (gC_len (gC_len (fun _ _ _ h => gZ_len h))))) (mss_cons (ms_if (MW.mt (mw_or (mt_cmp (fun _ => op_neT rfl hr) (mh_val (me_call (ih 3 (by decide)) hr rfl T.g_3 T.kp_3 T.b_3 .nil (fun _ => .nil) (mv_cons (m1_val (me_var 1)) mv_nil))) (mh_val (me_fz (mf_ls (ma_cons (me_var 3) (ma_cons me_str (ma_cons me_str ma_nil)))))) (by rfl)) (mw_or1 (mt_cmp (fun _ => op_neT rfl hr) (mh_val (me_call (ih 3 (by decide)) hr rfl T.g_3 T.kp_3 T.b_3 .nil (fun _ => .nil) (mv_cons (m1_val (me_var 2)) mv_nil))) (mh_val (me_fz (mf_ls (ma_cons (me_var 3) (ma_cons me_str (ma_cons me_str ma_nil)))))) (by rfl))))) (mss_one (ms_ret me_bl)) mss_nil)
  (mss_one (ms_if (MW.mt (mw_or (mt_cmp (fun _ => op_neT rfl hr) (mh_val (me_fldE rfl T.fq_value (mh_name 1))) (mh_name 0) (by rfl)) (mw_or1 (mt_cmp (fun _ => op_neT rfl hr) (mh_val (me_fldE rfl T.fq_value (mh_name 2))) (mh_name 0) (by rfl))))) (mss_one (ms_ret me_bl)) mss_nil))))
  (mss_cons (ms_for rfl (mi_list rfl (me_call (ih 5 (by decide)) hr rfl T.g_5 T.kp_5 T.b_5 .nil (fun _ => .nil) (mv_cons (m1_val (me_var 0)) mv_nil))) (mg_tup rfl rfl (mgs_cons (mg_name 1 sc.nd rfl (by first | exact Or.inl rfl | exact Or.inr rfl)) (mgs_cons (mg_name 2 sc.nd rfl (by first | exact Or.inl rfl | exact Or.inr rfl)) (mgs_cons (mg_name 3 sc.nd rfl (by first | exact Or.inl rfl | exact Or.inr rfl)) mgs_nil))) (gC_len (gC_len (gC_len (fun _ _ _ h => gZ_len h))))) (mss_cons (ms_if (MW.mt (mw_or (mt_cmp (fun _ => op_neT rfl hr) (mh_val (me_call (ih 3 (by decide)) hr rfl T.g_3 T.kp_3 T.b_3 .nil (fun _ => .nil) (mv_cons (m1_val (me_var 1)) mv_nil))) (mh_val (me_fz (mf_ls (ma_cons (me_var 3) (ma_cons me_str (ma_cons me_str ma_nil)))))) (by rfl)) (mw_or1 (mt_cmp (fun _ => op_neT rfl hr) (mh_val (me_call (ih 3 (by decide)) hr rfl T.g_3 T.kp_3 T.b_3 .nil (fun _ => .nil) (mv_cons (m1_val (me_var 2)) mv_nil))) (mh_val (me_fz (mf_ls (ma_cons (me_var 3) (ma_cons me_str (ma_cons me_str ma_nil)))))) (by rfl))))) (mss_one (ms_ret me_bl)) mss_nil)
  (mss_one (ms_if (MW.mt (mw_or (mt_cmp (fun _ => op_neT rfl hr) (mh_val (me_fldE rfl T.fq_place (mh_name 1))) (mh_name 0) (by rfl)) (mw_or1 (mt_cmp (fun _ => op_neT rfl hr) (mh_val (me_fldE rfl T.fq_place (mh_name 2))) (mh_name 0) (by rfl))))) (mss_one (ms_ret me_bl)) mss_nil))))
  (mss_cons (ms_for rfl (mi_tup rfl (me_tup (ma_cons (me_err (k := 16) T.c_16.z hr rfl rfl rfl T.gc_16 T.c_16.pos rfl (me_var 0)) (ma_cons (me_errK (k := 16) T.c_16.z hr rfl rfl rfl T.gc_16 T.c_16.kw (me_var 0)) ma_nil)))) (mg_name 1 sc.nd rfl (by first | exact Or.inl rfl | exact Or.inr rfl)) (mss_one (ms_if (MW.mt (mw_or (mt_cmp (fun _ => op_neT rfl hr) (mh_val (me_call (ih 3 (by decide)) hr rfl T.g_3 T.kp_3 T.b_3 .nil (fun _ => .nil) (mv_cons (m1_val (me_var 1)) mv_nil))) (mh_val (me_fz (mf_ls (ma_cons me_str (ma_cons me_str ma_nil))))) (by rfl)) (mw_or1 (mt_cmp (fun _ => op_neT rfl hr) (mh_val (me_fldE rfl T.fq_value (mh_name 1))) (mh_name 0) (by rfl))))) (mss_one (ms_ret me_bl)) mss_nil)))
  (mss_cons (ms_for rfl (mi_tup rfl (me_tup (ma_cons (me_err (k := 15) T.c_15.z hr rfl rfl rfl T.gc_15 T.c_15.pos rfl (me_var 0)) (ma_cons (me_errK (k := 15) T.c_15.z hr rfl rfl rfl T.gc_15 T.c_15.kw (me_var 0)) ma_nil)))) (mg_name 1 sc.nd rfl (by first | exact Or.inl rfl | exact Or.inr rfl)) (mss_one (ms_if (MW.mt (mw_or (mt_cmp (fun _ => op_neT rfl hr) (mh_val (me_call (ih 3 (by decide)) hr rfl T.g_3 T.kp_3 T.b_3 .nil (fun _ => .nil) (mv_cons (m1_val (me_var 1)) mv_nil))) (mh_val (me_fz (mf_ls (ma_cons me_str (ma_cons me_str ma_nil))))) (by rfl)) (mw_or1 (mt_cmp (fun _ => op_neT rfl hr) (mh_val (me_fldE rfl T.fq_most (mh_name 1))) (mh_name 0) (by rfl))))) (mss_one (ms_ret me_bl)) mss_nil)))
  (mss_one (ms_ret me_bl))))))
theorem d_7 (T : Txt P w K mg base fa fd ca ci cd aS) (ih : ∀ j, j < 8 → FnT P w K mg base (cn K ca) k (fa j) (fd j) (psT j) (φ j)) {f : Addr} {cdv : Value} {A : Around} {outer : List Env} {s : Shared} {H : Hp} {E : XK} (hr : TRoom k (A.deeper (envOfC "law" (defScope s_7) s.heap.objs.size f cdv))) :
    MSs (cxOf (CX P w) P w K mg base N_7 "law" (defScope s_7) f cdv A outer s H E) (cn K ca) (defBody s_7) (m_7 φ) := by
  have sc := sc_7
  exact (mss_cons (ms_for rfl (mi_enum rfl rfl T.n_enumerate (me_op (fun _ => op_addD rfl) (mh_val (me_slice rfl (mh_name 0) mp_none (mp_some me_int))) (mh_val (me_fz (mf_ls (ma_cons (me_callB (fun _ => cr_sumD rfl rfl) rfl T.n_sum rfl (mh_name 0)) ma_nil)))))) (mg_tup rfl rfl (mgs_cons (mg_name 1 sc.nd rfl (by first | exact Or.inl rfl | exact Or.inr rfl)) (mgs_cons (mg_name 2 sc.nd rfl (by first | exact Or.inl rfl | exact Or.inr rfl)) mgs_nil)) (gC_len (gC_len (fun _ _ _ h => gZ_len h)))) (mss_cons (ms_ownM 6 sc.nd rfl (by first | exact Or.inl rfl | exact Or.inr rfl) (mc_call (ih 1 (by decide)) hr rfl T.g_1 T.kp_1 T.b_1 .nil (fun _ => .nil) (mv_cons (m1_val (me_var 2)) (mv_cons (m1_val (me_var 1)) mv_nil))))
  (mss_cons (ms_set 7 sc.nd rfl (by first | exact Or.inl rfl | exact Or.inr rfl) (me_call (ih 2 (by decide)) hr rfl T.g_2 T.kp_2 T.b_2 .nil (fun _ => .nil) (mv_cons (m1_slot 6) (mv_cons (m1_val me_int) mv_nil))))
  (mss_cons (ms_set 3 sc.nd rfl (by first | exact Or.inl rfl | exact Or.inr rfl) (me_fz (mf_ls (ma_cons (me_var 7) (ma_cons (me_op (fun _ => op_subD) (mh_val me_int) (mh_name 7)) (ma_cons (me_op (fun _ => op_mulD rfl) (mh_val me_str) (mh_val (me_op (fun _ => op_modD) (mh_name 7) (mh_val me_int)))) (ma_cons (me_tup (ma_cons me_str (ma_cons (me_tup (ma_cons me_int (ma_cons (me_var 7) ma_nil))) ma_nil))) (ma_cons me_non (ma_cons (me_tup (ma_cons (me_op (fun _ => op_powD) (mh_val me_int) (mh_val me_int)) (ma_cons (me_tup ma_nil) ma_nil))) (ma_cons (me_op (fun _ => op_mulD rfl) (mh_val (me_tup (ma_cons (me_var 7) ma_nil))) (mh_val me_int)) ma_nil))))))))))
  (mss_one (ms_if (MW.mt (mw_or (mt_not (mt_tru rfl (mh_val (me_call (ih 6 (by decide)) hr rfl T.g_6 T.kp_6 T.b_6 .nil (fun _ => .nil) (mv_cons (m1_val (me_ix rfl (mh_name 3) (mh_val (me_call (ih 2 (by decide)) hr rfl T.g_2 T.kp_2 T.b_2 .nil (fun _ => .nil) (mv_cons (m1_slot 6) (mv_cons (m1_val me_int) mv_nil)))) (fun _ _ => rfl))) mv_nil))))) (mw_or1 (mt_not (mt_tru rfl (mh_val (me_call (ih 6 (by decide)) hr rfl T.g_6 T.kp_6 T.b_6 .nil (fun _ => .nil) (mv_cons (m1_val (me_op (fun _ => op_powD) (mh_val (me_op (fun _ => op_powD) (mh_val (me_op (fun _ => op_powD) (mh_val me_int) (mh_val me_int))) (mh_val me_int))) (mh_val me_int))) mv_nil)))))))) (mss_one (ms_ret me_bl)) mss_nil))))))
  (mss_cons (ms_set 3 sc.nd rfl (by first | exact Or.inl rfl | exact Or.inr rfl) (me_fz (mf_ls (ma_cons (me_err0 (k := 10) (y := .non) T.c_10.z hr rfl rfl rfl T.gc_10 (T.c_10.no rfl) rfl rfl (fun _ => .n)) (ma_cons (me_err0 (k := 11) (y := .non) T.c_11.z hr rfl rfl rfl T.gc_11 (T.c_11.no rfl) rfl rfl (fun _ => .n)) (ma_cons (me_err0 (k := 16) (y := .non) T.c_16.z hr rfl rfl rfl T.gc_16 (T.c_16.no rfl) rfl rfl (fun _ => .n)) ma_nil))))))
  (mss_cons (ms_set 4 sc.nd rfl (by first | exact Or.inl rfl | exact Or.inr rfl) (me_fz (mf_ls (ma_cons (me_err0 (k := 0) (y := .non) T.c_0.z hr rfl rfl rfl T.gc_0 (T.c_0.no rfl) rfl rfl (fun _ => .n)) (ma_cons (me_err0 (k := 1) (y := .non) T.c_1.z hr rfl rfl rfl T.gc_1 (T.c_1.no rfl) rfl rfl (fun _ => .n)) (ma_cons (me_err0 (k := 2) (y := .non) T.c_2.z hr rfl rfl rfl T.gc_2 (T.c_2.no rfl) rfl rfl (fun _ => .n)) (ma_cons (me_err0 (k := 3) (y := .non) T.c_3.z hr rfl rfl rfl T.gc_3 (T.c_3.no rfl) rfl rfl (fun _ => .n)) (ma_cons (me_err0 (k := 4) (y := .non) T.c_4.z hr rfl rfl rfl T.gc_4 (T.c_4.no rfl) rfl rfl (fun _ => .n)) (ma_cons (me_err0 (k := 5) (y := .non) T.c_5.z hr rfl rfl rfl T.gc_5 (T.c_5.no rfl) rfl rfl (fun _ => .n)) (ma_cons (me_err0 (k := 6) (y := .non) T.c_6.z hr rfl rfl rfl T.gc_6 (T.c_6.no rfl) rfl rfl (fun _ => .n)) ma_nil))))))))))
  (mss_cons (ms_set 4 sc.nd rfl (by first | exact Or.inl rfl | exact Or.inr rfl) (me_op (fun _ => op_addD rfl) (mh_name 4) (mh_val (me_fz (mf_ls (ma_cons (me_err0 (k := 7) (y := .non) T.c_7.z hr rfl rfl rfl T.gc_7 (T.c_7.no rfl) rfl rfl (fun _ => .n)) (ma_cons (me_err0 (k := 8) (y := .non) T.c_8.z hr rfl rfl rfl T.gc_8 (T.c_8.no rfl) rfl rfl (fun _ => .n)) (ma_cons (me_err0 (k := 9) (y := .non) T.c_9.z hr rfl rfl rfl T.gc_9 (T.c_9.no rfl) rfl rfl (fun _ => .n)) (ma_cons (me_err0 (k := 12) (y := .non) T.c_12.z hr rfl rfl rfl T.gc_12 (T.c_12.no rfl) rfl rfl (fun _ => .n)) (ma_cons (me_err0 (k := 13) (y := .non) T.c_13.z hr rfl rfl rfl T.gc_13 (T.c_13.no rfl) rfl rfl (fun _ => .n)) (ma_cons (me_err0 (k := 14) (y := .non) T.c_14.z hr rfl rfl rfl T.gc_14 (T.c_14.no rfl) rfl rfl (fun _ => .n)) ma_nil)))))))))))
  (mss_cons (ms_if (MW.mt (mw_or (mt_cmp (fun _ => op_neT rfl hr) (mh_val (me_fz (mf_lc (own := [("e", 9)]) (vs := [9]) rfl sc.nd rfl (by decide) (by show ∀ v ∈ ([9] : List Nat), v < 13; decide) (by decide) (mi_list rfl (me_var 3)) (blkOk_by (own := [("e", 9)]) (N := N_7) (sc := defScope s_7) (by decide +kernel)) (fun _ _ _ _ _ => (mg_name 9 sc.nd rfl (by first | exact Or.inl rfl | exact Or.inr rfl))) (fun _ _ _ _ _ => mif_nil) (fun _ _ _ _ _ => (me_fldE rfl T.fq_value (mh_name 9)))))) (mh_val (me_fz (mf_rep (mf_ls (ma_cons me_non ma_nil)) me_int))) (by rfl)) (mw_or1 (mt_cmp (fun _ => op_neT rfl hr) (mh_val (me_fz (mf_lc (own := [("e", 9)]) (vs := [9]) rfl sc.nd rfl (by decide) (by show ∀ v ∈ ([9] : List Nat), v < 13; decide) (by decide) (mi_list rfl (me_var 4)) (blkOk_by (own := [("e", 9)]) (N := N_7) (sc := defScope s_7) (by decide +kernel)) (fun _ _ _ _ _ => (mg_name 9 sc.nd rfl (by first | exact Or.inl rfl | exact Or.inr rfl))) (fun _ _ _ _ _ => mif_nil) (fun _ _ _ _ _ => (me_fldE rfl T.fq_place (mh_name 9)))))) (mh_val (me_fz (mf_rep (mf_ls (ma_cons me_non ma_nil)) me_int))) (by rfl))))) (mss_one (ms_ret me_bl)) mss_nil)
  (mss_cons (ms_for rfl (mi_tup rfl (me_tup (ma_cons me_str (ma_cons (me_op (fun _ => op_powD) (mh_val me_int) (mh_val me_int)) (ma_cons me_int ma_nil))))) (mg_name 5 sc.nd rfl (by first | exact Or.inl rfl | exact Or.inr rfl)) (mss_cons (ms_set 8 sc.nd rfl (by first | exact Or.inl rfl | exact Or.inr rfl) (me_op (fun _ => op_addD rfl) (mh_val (me_fz (mf_lc (own := [("one", 10), ("other", 11), ("name", 12)]) (vs := [10, 11, 12]) rfl sc.nd rfl (by decide) (by show ∀ v ∈ ([10, 11, 12] : List Nat), v < 13; decide) (by decide) (mi_list rfl (me_op (fun _ => op_addD rfl) (mh_val (me_call (ih 4 (by decide)) hr rfl T.g_4 T.kp_4 T.b_4 .nil (fun _ => .nil) (mv_cons (m1_val (me_var 5)) mv_nil))) (mh_val (me_call (ih 5 (by decide)) hr rfl T.g_5 T.kp_5 T.b_5 .nil (fun _ => .nil) (mv_cons (m1_val (me_var 5)) mv_nil))))) (blkOk_by (own := [("one", 10), ("other", 11), ("name", 12)]) (N := N_7) (sc := defScope s_7) (by decide +kernel)) (fun _ _ _ _ _ => (mg_tup rfl rfl (mgs_cons (mg_name 10 sc.nd rfl (by first | exact Or.inl rfl | exact Or.inr rfl)) (mgs_cons (mg_name 11 sc.nd rfl (by first | exact Or.inl rfl | exact Or.inr rfl)) (mgs_cons (mg_name 12 sc.nd rfl (by first | exact Or.inl rfl | exact Or.inr rfl)) mgs_nil))) (gC_len (gC_len (gC_len (fun _ _ _ h => gZ_len h)))))) (fun _ _ _ _ _ => mif_nil) (fun _ _ _ _ _ => (me_var 10))))) (mh_val (me_fz (mf_ls (ma_cons (me_err (k := 16) T.c_16.z hr rfl rfl rfl T.gc_16 T.c_16.pos rfl (me_var 5)) (ma_cons (me_err (k := 15) T.c_15.z hr rfl rfl rfl T.gc_15 T.c_15.pos rfl (me_var 5)) ma_nil)))))))
  (mss_one (ms_if (mt_cmp (fun _ => op_neT rfl hr) (mh_val (me_fz (mf_lc (own := [("e", 9)]) (vs := [9]) rfl sc.nd rfl (by decide) (by show ∀ v ∈ ([9] : List Nat), v < 13; decide) (by decide) (mi_list rfl (me_var 8)) (blkOk_by (own := [("e", 9)]) (N := N_7) (sc := defScope s_7) (by decide +kernel)) (fun _ _ _ _ _ => (mg_name 9 sc.nd rfl (by first | exact Or.inl rfl | exact Or.inr rfl))) (fun _ _ _ _ _ => (mif_one (mt_cmp (fun _ => op_inT rfl hr) (mh_val (me_callT (fun _ => cr_str rfl hr T.strq) rfl T.n_str rfl (mh_name 5))) (mh_val (me_callT (fun _ => cr_str rfl hr T.strq) rfl T.n_str rfl (mh_name 9))) (by rfl)))) (fun _ _ _ _ _ => (me_var 9))))) (mh_val (me_fz (mf_ls ma_nil))) (by rfl)) (mss_one (ms_ret me_bl)) mss_nil))))
  (mss_one (ms_ret me_bl))))))))
end
end LW

set_option Elab.async false
set_option linter.all false
set_option maxRecDepth 100000
set_option maxHeartbeats 2000000
namespace LW
open PySem L2 TL
theorem all_lt_of : ∀ l : List Nat, (l.all fun c => decide (c < 0x110000)) = true → l.toArray.all (· < 0x110000) = true := fun l h => by simpa using h
theorem kinds_0 (k : Nat) (d : D) : Φ (k + 1) 3 [.val (.err 0 d)] = .ok (.lst [.str "BadType", .str "base", .str "value"]) [.val (.err 0 d)] := by
  simp [Φ, m_3, runB, sSeq, sSet, sFz, sLs, sCons, sNil, sTup, sErr, sVar, sC, sRet, sOp, sHn, sHv, res, look, opAdd, ofOpt, O.bind, O.bindS, startS, inSlot, LIM, outsAt, outOf, sIsi, isX, sLc, sLcL, sItL, sItT, gT, gC, gN, gZ, sTru, tru, plainAt, wipeS, bringS, sYes, q_BadCode, q_BadDeed, q_BadHelpers, q_BadInputs, q_BadLetter, q_BadNumber, q_BadPaper, q_BadProgram, q_BadTable, q_BadTerm, q_BadTests, q_BadText, q_BadType, q_BadValue, q_BadWorld, q_LookupError, q_NoSuch, q_OverflowError, q_SameError, q_TooMany, q_ValueError, fs_most, fs_place, fs_value]
theorem kinds_1 (k : Nat) (d : D) : Φ (k + 1) 3 [.val (.err 1 d)] = .ok (.lst [.str "BadTerm", .str "base", .str "value"]) [.val (.err 1 d)] := by
  simp [Φ, m_3, runB, sSeq, sSet, sFz, sLs, sCons, sNil, sTup, sErr, sVar, sC, sRet, sOp, sHn, sHv, res, look, opAdd, ofOpt, O.bind, O.bindS, startS, inSlot, LIM, outsAt, outOf, sIsi, isX, sLc, sLcL, sItL, sItT, gT, gC, gN, gZ, sTru, tru, plainAt, wipeS, bringS, sYes, q_BadCode, q_BadDeed, q_BadHelpers, q_BadInputs, q_BadLetter, q_BadNumber, q_BadPaper, q_BadProgram, q_BadTable, q_BadTerm, q_BadTests, q_BadText, q_BadType, q_BadValue, q_BadWorld, q_LookupError, q_NoSuch, q_OverflowError, q_SameError, q_TooMany, q_ValueError, fs_most, fs_place, fs_value]
theorem kinds_2 (k : Nat) (d : D) : Φ (k + 1) 3 [.val (.err 2 d)] = .ok (.lst [.str "BadProgram", .str "base", .str "value"]) [.val (.err 2 d)] := by
  simp [Φ, m_3, runB, sSeq, sSet, sFz, sLs, sCons, sNil, sTup, sErr, sVar, sC, sRet, sOp, sHn, sHv, res, look, opAdd, ofOpt, O.bind, O.bindS, startS, inSlot, LIM, outsAt, outOf, sIsi, isX, sLc, sLcL, sItL, sItT, gT, gC, gN, gZ, sTru, tru, plainAt, wipeS, bringS, sYes, q_BadCode, q_BadDeed, q_BadHelpers, q_BadInputs, q_BadLetter, q_BadNumber, q_BadPaper, q_BadProgram, q_BadTable, q_BadTerm, q_BadTests, q_BadText, q_BadType, q_BadValue, q_BadWorld, q_LookupError, q_NoSuch, q_OverflowError, q_SameError, q_TooMany, q_ValueError, fs_most, fs_place, fs_value]
theorem kinds_3 (k : Nat) (d : D) : Φ (k + 1) 3 [.val (.err 3 d)] = .ok (.lst [.str "BadInputs", .str "base", .str "value"]) [.val (.err 3 d)] := by
  simp [Φ, m_3, runB, sSeq, sSet, sFz, sLs, sCons, sNil, sTup, sErr, sVar, sC, sRet, sOp, sHn, sHv, res, look, opAdd, ofOpt, O.bind, O.bindS, startS, inSlot, LIM, outsAt, outOf, sIsi, isX, sLc, sLcL, sItL, sItT, gT, gC, gN, gZ, sTru, tru, plainAt, wipeS, bringS, sYes, q_BadCode, q_BadDeed, q_BadHelpers, q_BadInputs, q_BadLetter, q_BadNumber, q_BadPaper, q_BadProgram, q_BadTable, q_BadTerm, q_BadTests, q_BadText, q_BadType, q_BadValue, q_BadWorld, q_LookupError, q_NoSuch, q_OverflowError, q_SameError, q_TooMany, q_ValueError, fs_most, fs_place, fs_value]
theorem kinds_4 (k : Nat) (d : D) : Φ (k + 1) 3 [.val (.err 4 d)] = .ok (.lst [.str "BadWorld", .str "base", .str "value"]) [.val (.err 4 d)] := by
  simp [Φ, m_3, runB, sSeq, sSet, sFz, sLs, sCons, sNil, sTup, sErr, sVar, sC, sRet, sOp, sHn, sHv, res, look, opAdd, ofOpt, O.bind, O.bindS, startS, inSlot, LIM, outsAt, outOf, sIsi, isX, sLc, sLcL, sItL, sItT, gT, gC, gN, gZ, sTru, tru, plainAt, wipeS, bringS, sYes, q_BadCode, q_BadDeed, q_BadHelpers, q_BadInputs, q_BadLetter, q_BadNumber, q_BadPaper, q_BadProgram, q_BadTable, q_BadTerm, q_BadTests, q_BadText, q_BadType, q_BadValue, q_BadWorld, q_LookupError, q_NoSuch, q_OverflowError, q_SameError, q_TooMany, q_ValueError, fs_most, fs_place, fs_value]
theorem kinds_5 (k : Nat) (d : D) : Φ (k + 1) 3 [.val (.err 5 d)] = .ok (.lst [.str "BadValue", .str "base", .str "value"]) [.val (.err 5 d)] := by
  simp [Φ, m_3, runB, sSeq, sSet, sFz, sLs, sCons, sNil, sTup, sErr, sVar, sC, sRet, sOp, sHn, sHv, res, look, opAdd, ofOpt, O.bind, O.bindS, startS, inSlot, LIM, outsAt, outOf, sIsi, isX, sLc, sLcL, sItL, sItT, gT, gC, gN, gZ, sTru, tru, plainAt, wipeS, bringS, sYes, q_BadCode, q_BadDeed, q_BadHelpers, q_BadInputs, q_BadLetter, q_BadNumber, q_BadPaper, q_BadProgram, q_BadTable, q_BadTerm, q_BadTests, q_BadText, q_BadType, q_BadValue, q_BadWorld, q_LookupError, q_NoSuch, q_OverflowError, q_SameError, q_TooMany, q_ValueError, fs_most, fs_place, fs_value]
theorem kinds_6 (k : Nat) (d : D) : Φ (k + 1) 3 [.val (.err 6 d)] = .ok (.lst [.str "BadTable", .str "base", .str "value"]) [.val (.err 6 d)] := by
  simp [Φ, m_3, runB, sSeq, sSet, sFz, sLs, sCons, sNil, sTup, sErr, sVar, sC, sRet, sOp, sHn, sHv, res, look, opAdd, ofOpt, O.bind, O.bindS, startS, inSlot, LIM, outsAt, outOf, sIsi, isX, sLc, sLcL, sItL, sItT, gT, gC, gN, gZ, sTru, tru, plainAt, wipeS, bringS, sYes, q_BadCode, q_BadDeed, q_BadHelpers, q_BadInputs, q_BadLetter, q_BadNumber, q_BadPaper, q_BadProgram, q_BadTable, q_BadTerm, q_BadTests, q_BadText, q_BadType, q_BadValue, q_BadWorld, q_LookupError, q_NoSuch, q_OverflowError, q_SameError, q_TooMany, q_ValueError, fs_most, fs_place, fs_value]
theorem kinds_7 (k : Nat) (d : D) : Φ (k + 1) 3 [.val (.err 7 d)] = .ok (.lst [.str "BadTests", .str "base", .str "value"]) [.val (.err 7 d)] := by
  simp [Φ, m_3, runB, sSeq, sSet, sFz, sLs, sCons, sNil, sTup, sErr, sVar, sC, sRet, sOp, sHn, sHv, res, look, opAdd, ofOpt, O.bind, O.bindS, startS, inSlot, LIM, outsAt, outOf, sIsi, isX, sLc, sLcL, sItL, sItT, gT, gC, gN, gZ, sTru, tru, plainAt, wipeS, bringS, sYes, q_BadCode, q_BadDeed, q_BadHelpers, q_BadInputs, q_BadLetter, q_BadNumber, q_BadPaper, q_BadProgram, q_BadTable, q_BadTerm, q_BadTests, q_BadText, q_BadType, q_BadValue, q_BadWorld, q_LookupError, q_NoSuch, q_OverflowError, q_SameError, q_TooMany, q_ValueError, fs_most, fs_place, fs_value]
theorem kinds_8 (k : Nat) (d : D) : Φ (k + 1) 3 [.val (.err 8 d)] = .ok (.lst [.str "BadCode", .str "base", .str "value"]) [.val (.err 8 d)] := by
  simp [Φ, m_3, runB, sSeq, sSet, sFz, sLs, sCons, sNil, sTup, sErr, sVar, sC, sRet, sOp, sHn, sHv, res, look, opAdd, ofOpt, O.bind, O.bindS, startS, inSlot, LIM, outsAt, outOf, sIsi, isX, sLc, sLcL, sItL, sItT, gT, gC, gN, gZ, sTru, tru, plainAt, wipeS, bringS, sYes, q_BadCode, q_BadDeed, q_BadHelpers, q_BadInputs, q_BadLetter, q_BadNumber, q_BadPaper, q_BadProgram, q_BadTable, q_BadTerm, q_BadTests, q_BadText, q_BadType, q_BadValue, q_BadWorld, q_LookupError, q_NoSuch, q_OverflowError, q_SameError, q_TooMany, q_ValueError, fs_most, fs_place, fs_value]
theorem kinds_9 (k : Nat) (d : D) : Φ (k + 1) 3 [.val (.err 9 d)] = .ok (.lst [.str "BadText", .str "base", .str "value"]) [.val (.err 9 d)] := by
  simp [Φ, m_3, runB, sSeq, sSet, sFz, sLs, sCons, sNil, sTup, sErr, sVar, sC, sRet, sOp, sHn, sHv, res, look, opAdd, ofOpt, O.bind, O.bindS, startS, inSlot, LIM, outsAt, outOf, sIsi, isX, sLc, sLcL, sItL, sItT, gT, gC, gN, gZ, sTru, tru, plainAt, wipeS, bringS, sYes, q_BadCode, q_BadDeed, q_BadHelpers, q_BadInputs, q_BadLetter, q_BadNumber, q_BadPaper, q_BadProgram, q_BadTable, q_BadTerm, q_BadTests, q_BadText, q_BadType, q_BadValue, q_BadWorld, q_LookupError, q_NoSuch, q_OverflowError, q_SameError, q_TooMany, q_ValueError, fs_most, fs_place, fs_value]
theorem kinds_10 (k : Nat) (d : D) : Φ (k + 1) 3 [.val (.err 10 d)] = .ok (.lst [.str "BadNumber", .str "base", .str "value"]) [.val (.err 10 d)] := by
  simp [Φ, m_3, runB, sSeq, sSet, sFz, sLs, sCons, sNil, sTup, sErr, sVar, sC, sRet, sOp, sHn, sHv, res, look, opAdd, ofOpt, O.bind, O.bindS, startS, inSlot, LIM, outsAt, outOf, sIsi, isX, sLc, sLcL, sItL, sItT, gT, gC, gN, gZ, sTru, tru, plainAt, wipeS, bringS, sYes, q_BadCode, q_BadDeed, q_BadHelpers, q_BadInputs, q_BadLetter, q_BadNumber, q_BadPaper, q_BadProgram, q_BadTable, q_BadTerm, q_BadTests, q_BadText, q_BadType, q_BadValue, q_BadWorld, q_LookupError, q_NoSuch, q_OverflowError, q_SameError, q_TooMany, q_ValueError, fs_most, fs_place, fs_value]
theorem kinds_11 (k : Nat) (d : D) : Φ (k + 1) 3 [.val (.err 11 d)] = .ok (.lst [.str "BadLetter", .str "base", .str "value"]) [.val (.err 11 d)] := by
  simp [Φ, m_3, runB, sSeq, sSet, sFz, sLs, sCons, sNil, sTup, sErr, sVar, sC, sRet, sOp, sHn, sHv, res, look, opAdd, ofOpt, O.bind, O.bindS, startS, inSlot, LIM, outsAt, outOf, sIsi, isX, sLc, sLcL, sItL, sItT, gT, gC, gN, gZ, sTru, tru, plainAt, wipeS, bringS, sYes, q_BadCode, q_BadDeed, q_BadHelpers, q_BadInputs, q_BadLetter, q_BadNumber, q_BadPaper, q_BadProgram, q_BadTable, q_BadTerm, q_BadTests, q_BadText, q_BadType, q_BadValue, q_BadWorld, q_LookupError, q_NoSuch, q_OverflowError, q_SameError, q_TooMany, q_ValueError, fs_most, fs_place, fs_value]
theorem kinds_12 (k : Nat) (d : D) : Φ (k + 1) 3 [.val (.err 12 d)] = .ok (.lst [.str "BadPaper", .str "base", .str "value"]) [.val (.err 12 d)] := by
  simp [Φ, m_3, runB, sSeq, sSet, sFz, sLs, sCons, sNil, sTup, sErr, sVar, sC, sRet, sOp, sHn, sHv, res, look, opAdd, ofOpt, O.bind, O.bindS, startS, inSlot, LIM, outsAt, outOf, sIsi, isX, sLc, sLcL, sItL, sItT, gT, gC, gN, gZ, sTru, tru, plainAt, wipeS, bringS, sYes, q_BadCode, q_BadDeed, q_BadHelpers, q_BadInputs, q_BadLetter, q_BadNumber, q_BadPaper, q_BadProgram, q_BadTable, q_BadTerm, q_BadTests, q_BadText, q_BadType, q_BadValue, q_BadWorld, q_LookupError, q_NoSuch, q_OverflowError, q_SameError, q_TooMany, q_ValueError, fs_most, fs_place, fs_value]
theorem kinds_13 (k : Nat) (d : D) : Φ (k + 1) 3 [.val (.err 13 d)] = .ok (.lst [.str "BadDeed", .str "base", .str "value"]) [.val (.err 13 d)] := by
  simp [Φ, m_3, runB, sSeq, sSet, sFz, sLs, sCons, sNil, sTup, sErr, sVar, sC, sRet, sOp, sHn, sHv, res, look, opAdd, ofOpt, O.bind, O.bindS, startS, inSlot, LIM, outsAt, outOf, sIsi, isX, sLc, sLcL, sItL, sItT, gT, gC, gN, gZ, sTru, tru, plainAt, wipeS, bringS, sYes, q_BadCode, q_BadDeed, q_BadHelpers, q_BadInputs, q_BadLetter, q_BadNumber, q_BadPaper, q_BadProgram, q_BadTable, q_BadTerm, q_BadTests, q_BadText, q_BadType, q_BadValue, q_BadWorld, q_LookupError, q_NoSuch, q_OverflowError, q_SameError, q_TooMany, q_ValueError, fs_most, fs_place, fs_value]
theorem kinds_14 (k : Nat) (d : D) : Φ (k + 1) 3 [.val (.err 14 d)] = .ok (.lst [.str "BadHelpers", .str "base", .str "value"]) [.val (.err 14 d)] := by
  simp [Φ, m_3, runB, sSeq, sSet, sFz, sLs, sCons, sNil, sTup, sErr, sVar, sC, sRet, sOp, sHn, sHv, res, look, opAdd, ofOpt, O.bind, O.bindS, startS, inSlot, LIM, outsAt, outOf, sIsi, isX, sLc, sLcL, sItL, sItT, gT, gC, gN, gZ, sTru, tru, plainAt, wipeS, bringS, sYes, q_BadCode, q_BadDeed, q_BadHelpers, q_BadInputs, q_BadLetter, q_BadNumber, q_BadPaper, q_BadProgram, q_BadTable, q_BadTerm, q_BadTests, q_BadText, q_BadType, q_BadValue, q_BadWorld, q_LookupError, q_NoSuch, q_OverflowError, q_SameError, q_TooMany, q_ValueError, fs_most, fs_place, fs_value]
theorem kinds_15 (k : Nat) (d : D) : Φ (k + 1) 3 [.val (.err 15 d)] = .ok (.lst [.str "TooMany", .str "overflow"]) [.val (.err 15 d)] := by
  simp [Φ, m_3, runB, sSeq, sSet, sFz, sLs, sCons, sNil, sTup, sErr, sVar, sC, sRet, sOp, sHn, sHv, res, look, opAdd, ofOpt, O.bind, O.bindS, startS, inSlot, LIM, outsAt, outOf, sIsi, isX, sLc, sLcL, sItL, sItT, gT, gC, gN, gZ, sTru, tru, plainAt, wipeS, bringS, sYes, q_BadCode, q_BadDeed, q_BadHelpers, q_BadInputs, q_BadLetter, q_BadNumber, q_BadPaper, q_BadProgram, q_BadTable, q_BadTerm, q_BadTests, q_BadText, q_BadType, q_BadValue, q_BadWorld, q_LookupError, q_NoSuch, q_OverflowError, q_SameError, q_TooMany, q_ValueError, fs_most, fs_place, fs_value]
theorem kinds_16 (k : Nat) (d : D) : Φ (k + 1) 3 [.val (.err 16 d)] = .ok (.lst [.str "NoSuch", .str "lookup"]) [.val (.err 16 d)] := by
  simp [Φ, m_3, runB, sSeq, sSet, sFz, sLs, sCons, sNil, sTup, sErr, sVar, sC, sRet, sOp, sHn, sHv, res, look, opAdd, ofOpt, O.bind, O.bindS, startS, inSlot, LIM, outsAt, outOf, sIsi, isX, sLc, sLcL, sItL, sItT, gT, gC, gN, gZ, sTru, tru, plainAt, wipeS, bringS, sYes, q_BadCode, q_BadDeed, q_BadHelpers, q_BadInputs, q_BadLetter, q_BadNumber, q_BadPaper, q_BadProgram, q_BadTable, q_BadTerm, q_BadTests, q_BadText, q_BadType, q_BadValue, q_BadWorld, q_LookupError, q_NoSuch, q_OverflowError, q_SameError, q_TooMany, q_ValueError, fs_most, fs_place, fs_value]
theorem valued (k : Nat) (d : D) : Φ (k + 1) 4 [.val d] = .ok (.lst [.tup [.err 10 d, .err 10 d, .str "BadNumber"], .tup [.err 11 d, .err 11 d, .str "BadLetter"]]) [.val d] := by
  simp [Φ, m_4, runB, sSeq, sSet, sFz, sLs, sCons, sNil, sTup, sErr, sVar, sC, sRet, sOp, sHn, sHv, res, look, opAdd, ofOpt, O.bind, O.bindS, startS, inSlot, LIM, outsAt, outOf, sIsi, isX, sLc, sLcL, sItL, sItT, gT, gC, gN, gZ, sTru, tru, plainAt, wipeS, bringS, sYes]
theorem placed (k : Nat) (d : D) : Φ (k + 1) 5 [.val d] = .ok (.lst [.tup [.err 0 d, .err 0 d, .str "BadType"], .tup [.err 1 d, .err 1 d, .str "BadTerm"], .tup [.err 2 d, .err 2 d, .str "BadProgram"], .tup [.err 3 d, .err 3 d, .str "BadInputs"], .tup [.err 4 d, .err 4 d, .str "BadWorld"], .tup [.err 5 d, .err 5 d, .str "BadValue"],
    .tup [.err 6 d, .err 6 d, .str "BadTable"], .tup [.err 7 d, .err 7 d, .str "BadTests"], .tup [.err 8 d, .err 8 d, .str "BadCode"], .tup [.err 9 d, .err 9 d, .str "BadText"], .tup [.err 12 d, .err 12 d, .str "BadPaper"], .tup [.err 13 d, .err 13 d, .str "BadDeed"], .tup [.err 14 d, .err 14 d, .str "BadHelpers"]]) [.val d] := by
  simp [Φ, m_5, runB, sSeq, sSet, sFz, sLs, sCons, sNil, sTup, sErr, sVar, sC, sRet, sOp, sHn, sHv, res, look, opAdd, ofOpt, O.bind, O.bindS, startS, inSlot, LIM, outsAt, outOf, sIsi, isX, sLc, sLcL, sItL, sItT, gT, gC, gN, gZ, sTru, tru, plainAt, wipeS, bringS, sYes]
theorem s_ok : (PyData.strOk "base" && PyData.strOk "value" && PyData.strOk "NoSuch" && PyData.strOk "lookup" && PyData.strOk "TooMany" && PyData.strOk "overflow" && PyData.strOk "BadType" && PyData.strOk "BadTerm" && PyData.strOk "BadProgram" && PyData.strOk "BadInputs" && PyData.strOk "BadWorld" && PyData.strOk "BadValue" && PyData.strOk "BadTable" && PyData.strOk "BadTests" && PyData.strOk "BadCode" && PyData.strOk "BadText" && PyData.strOk "BadNumber" && PyData.strOk "BadLetter" && PyData.strOk "BadPaper" && PyData.strOk "BadDeed" && PyData.strOk "BadHelpers") = true := by decide +kernel
theorem right (k : Nat) (d : D) (h1 : ok 200 d = true) (h2 : deq d d = true) : Φ (k + 2) 6 [.val d] = .ok (.bl true) [.val d] := by
  have so := s_ok
  simp only [Bool.and_eq_true] at so
  show runB 4 1 (m_6 (Φ (k + 1))) [.val d] = _
  simp [m_6, lb_2_0, lb_6_0, lb_6_1, lb_6_2, lb_6_3, runB, sSeq, sSet, sFz, sLs, sCons, sNil, sTup, sErr, sVar, sC, sRet, sOp, sHn, sHv, res, look, opAdd, ofOpt, O.bind, O.bindS, startS, inSlot, LIM, outsAt, outOf, sIsi, isX, sLc, sLcL, sItL, sItT, gT, gC, gN, gZ, sTru, tru, plainAt, wipeS, bringS, sYes, valued, placed, kinds_0, kinds_1, kinds_2, kinds_3, kinds_4, kinds_5, kinds_6, kinds_7, kinds_8, kinds_9, kinds_10, kinds_11, kinds_12, kinds_13, kinds_14, kinds_15, kinds_16, sCall, sACons, sAv, sANil, slots, argsOf, argOf, putBack, sFor, sForL, sIfS, sOrT, sB, cNe, ok, okL, deq, deqL, so, sFldE, q_BadCode, q_BadDeed, q_BadHelpers, q_BadInputs, q_BadLetter, q_BadNumber, q_BadPaper, q_BadProgram, q_BadTable, q_BadTerm, q_BadTests, q_BadText, q_BadType, q_BadValue, q_BadWorld, q_LookupError, q_NoSuch, q_OverflowError, q_SameError, q_TooMany, q_ValueError, fs_most, fs_place, fs_value, h1, h2]
end LW

set_option Elab.async false
set_option linter.all false
set_option maxRecDepth 100000
set_option maxHeartbeats 2000000
namespace LW
open PySem L2 TL
theorem mixed (k : Nat) (c j : Int) (h0 : 0 ≤ j) (h1 : j ≤ 1000000) : ∃ r, Φ (k + 1) 0 [.val (.int c), .val (.int j)] = .ok (.int r) [.val (.int c), .val (.int j)] := by
  have go : ∀ m : Int, 0 < m → m < 4294967296 → W64 (c % m + 7919 * j + 13) = true := fun m p q => by
    have a := Int.emod_nonneg c (show m ≠ 0 by omega)
    have b := Int.emod_lt_of_pos c p
    simp [W64]; omega
  have w2 : ∀ x : Int, W64 (x % 2147483647) = true := fun x => by simp [W64]; omega
  have g1 := go 1000000007 (by decide) (by decide)
  have g2 := go 998244353 (by decide) (by decide)
  have g3 := go 2147483629 (by decide) (by decide)
  have g4 := go 1000000009 (by decide) (by decide)
  rcases (by omega : j % 4 = 0 ∨ j % 4 = 1 ∨ j % 4 = 2 ∨ j % 4 = 3) with h | h | h | h
  · exact ⟨(c % 1000000007 + 7919 * j + 13) * (c % 1000000007 + 7919 * j + 13) % 2147483647 * 48271 % 2147483647, by simp [Φ, m_0, runB, sSeq, sSet, sFz, sLs, sCons, sNil, sTup, sErr, sVar, sC, sRet, sOp, sHn, sHv, res, look, opAdd, ofOpt, O.bind, O.bindS, startS, inSlot, LIM, outsAt, outOf, sIsi, isX, sLc, sLcL, sItL, sItT, gT, gC, gN, gZ, sTru, tru, plainAt, wipeS, bringS, sYes, h, opMod, opMul, opIx, atI, ixN, g1, w2, show W64 7919 = true by decide]⟩
  · exact ⟨(c % 998244353 + 7919 * j + 13) * (c % 998244353 + 7919 * j + 13) % 2147483647 * 48271 % 2147483647, by simp [Φ, m_0, runB, sSeq, sSet, sFz, sLs, sCons, sNil, sTup, sErr, sVar, sC, sRet, sOp, sHn, sHv, res, look, opAdd, ofOpt, O.bind, O.bindS, startS, inSlot, LIM, outsAt, outOf, sIsi, isX, sLc, sLcL, sItL, sItT, gT, gC, gN, gZ, sTru, tru, plainAt, wipeS, bringS, sYes, h, opMod, opMul, opIx, atI, ixN, g2, w2, show W64 7919 = true by decide]⟩
  · exact ⟨(c % 2147483629 + 7919 * j + 13) * (c % 2147483629 + 7919 * j + 13) % 2147483647 * 48271 % 2147483647, by simp [Φ, m_0, runB, sSeq, sSet, sFz, sLs, sCons, sNil, sTup, sErr, sVar, sC, sRet, sOp, sHn, sHv, res, look, opAdd, ofOpt, O.bind, O.bindS, startS, inSlot, LIM, outsAt, outOf, sIsi, isX, sLc, sLcL, sItL, sItT, gT, gC, gN, gZ, sTru, tru, plainAt, wipeS, bringS, sYes, h, opMod, opMul, opIx, atI, ixN, g3, w2, show W64 7919 = true by decide]⟩
  · exact ⟨(c % 1000000009 + 7919 * j + 13) * (c % 1000000009 + 7919 * j + 13) % 2147483647 * 48271 % 2147483647, by simp [Φ, m_0, runB, sSeq, sSet, sFz, sLs, sCons, sNil, sTup, sErr, sVar, sC, sRet, sOp, sHn, sHv, res, look, opAdd, ofOpt, O.bind, O.bindS, startS, inSlot, LIM, outsAt, outOf, sIsi, isX, sLc, sLcL, sItL, sItT, gT, gC, gN, gZ, sTru, tru, plainAt, wipeS, bringS, sYes, h, opMod, opMul, opIx, atI, ixN, g4, w2, show W64 7919 = true by decide]⟩
def st (l c t : Int) : MO := .dct [(.inr "left", .int l), (.inr "cell", .int c), (.inr "turns", .int t)]
theorem ne1 : ¬ (("left" : Str) = "cell") := by decide +kernel
theorem ne2 : ¬ (("left" : Str) = "turns") := by decide +kernel
theorem ne3 : ¬ (("cell" : Str) = "left") := by decide +kernel
theorem ne4 : ¬ (("cell" : Str) = "turns") := by decide +kernel
theorem ne5 : ¬ (("turns" : Str) = "left") := by decide +kernel
theorem ne6 : ¬ (("turns" : Str) = "cell") := by decide +kernel
theorem digit (k : Nat) (l c t b : Int) (hb : 0 < b) (hb2 : b.natAbs.log2 < 9000) (ht : 0 ≤ t) (ht2 : t ≤ 900000) : ∃ d l' t', Φ (k + 2) 2 [.own (st l c t), .val (.int b)] = .ok (.int d) [.own (st l' c t'), .val (.int b)] ∧ 0 ≤ d ∧ d < b ∧ t ≤ t' ∧ t' ≤ t + 4 := by
  have p1 : ∀ x : Int, 0 ≤ x % b := fun x => Int.emod_nonneg x (by omega)
  have p2 : ∀ x : Int, x % b < b := fun x => Int.emod_lt_of_pos x hb
  have wm : W64 2147483647 = true := by decide
  by_cases hl : l = 0
  · obtain ⟨r1, e1⟩ := mixed k c (t + 1) (by omega) (by omega)
    obtain ⟨r2, e2⟩ := mixed k c (t + 2) (by omega) (by omega)
    obtain ⟨r3, e3⟩ := mixed k c (t + 3) (by omega) (by omega)
    obtain ⟨r4, e4⟩ := mixed k c (t + 4) (by omega) (by omega)
    refine ⟨(((r1 * 2147483647 + r2) * 2147483647 + r3) * 2147483647 + r4) % b, (((r1 * 2147483647 + r2) * 2147483647 + r3) * 2147483647 + r4) / b, t + 4, ?_, p1 _, p2 _, by omega, by omega⟩
    show runB 4 2 (m_2 (Φ (k + 1))) _ = _
    simp [m_2, lb_2_0, lb_6_0, lb_6_1, lb_6_2, lb_6_3, st, runB, sSeq, sSet, sFz, sLs, sCons, sNil, sTup, sErr, sVar, sC, sRet, sOp, sHn, sHv, res, look, opAdd, ofOpt, O.bind, O.bindS, startS, inSlot, LIM, outsAt, outOf, sIsi, isX, sLc, sLcL, sItL, sItT, gT, gC, gN, gZ, sTru, tru, plainAt, wipeS, bringS, sYes, sIfS, sB, sDget, sDput, curD, keyOf, put1, dget, dput, cEq, ok, deq, sFor, sForL, sRng1, R62, TL.upTo, sCall, sACons, sAv, sANil, slots, argsOf, argOf, putBack, opMul, opMod, opFdiv, wm, hl, ne1, ne2, ne3, ne4, ne5, ne6, e1, e2, e3, e4, hb, hb2, List.range, List.range.loop, Int.add_assoc]
  · refine ⟨l % b, l / b, t, ?_, p1 _, p2 _, by omega, by omega⟩
    show runB 4 2 (m_2 (Φ (k + 1))) _ = _
    simp [m_2, lb_2_0, lb_6_0, lb_6_1, lb_6_2, lb_6_3, st, runB, sSeq, sSet, sFz, sLs, sCons, sNil, sTup, sErr, sVar, sC, sRet, sOp, sHn, sHv, res, look, opAdd, ofOpt, O.bind, O.bindS, startS, inSlot, LIM, outsAt, outOf, sIsi, isX, sLc, sLcL, sItL, sItT, gT, gC, gN, gZ, sTru, tru, plainAt, wipeS, bringS, sYes, sIfS, sB, sDget, sDput, curD, keyOf, put1, dget, dput, cEq, ok, deq, opMul, opMod, opFdiv, ne1, ne2, ne3, ne4, ne5, ne6, hl, hb, hb2]
end LW

set_option Elab.async false
set_option linter.all false
set_option maxRecDepth 100000
set_option maxHeartbeats 4000000
namespace LW
open PySem L2 TL
def e18 : Int := 10 ^ (18 : Int).toNat
def e30 : Int := 10 ^ (30 : Int).toNat
def e50 : Int := 10 ^ (50 : Int).toNat
def e2500 : Int := e50 ^ (50 : Int).toNat
def e5000 : Int := e2500 ^ (2 : Int).toNat
theorem pw18 : opPow (.int 10) (.int 18) = some (.int e18) := by
  simp only [opPow]; rw [if_pos]
  · rfl
  · decide +kernel
theorem pw30 : opPow (.int 10) (.int 30) = some (.int e30) := by
  simp only [opPow]; rw [if_pos]
  · rfl
  · decide +kernel
theorem pw50 : opPow (.int 10) (.int 50) = some (.int e50) := by
  simp only [opPow]; rw [if_pos]
  · rfl
  · decide +kernel
theorem pw2500 : opPow (.int e50) (.int 50) = some (.int e2500) := by
  simp only [opPow]; rw [if_pos]
  · rfl
  · decide +kernel
theorem pw5000 : opPow (.int e2500) (.int 2) = some (.int e5000) := by
  simp only [opPow]; rw [if_pos]
  · rfl
  · decide +kernel
theorem draw (k : Nat) (c j : Int) : ∃ l, Φ (k + 1) 1 [.val (.int c), .val (.int j)] = .okm (st l c (1000 * j)) [.val (.int c), .val (.int j)] := by
  by_cases h : e18 ≤ c
  · exact ⟨c, by simp [Φ, m_1, st, runB, sSeq, sSet, sFz, sLs, sCons, sNil, sTup, sErr, sVar, sC, sRet, sOp, sHn, sHv, res, look, opAdd, ofOpt, O.bind, O.bindS, startS, inSlot, LIM, outsAt, outOf, sIsi, isX, sLc, sLcL, sItL, sItT, gT, gC, gN, gZ, sTru, tru, plainAt, wipeS, bringS, sYes, sRetM, sDict, sIf, sB, cGe, pw18, opMul, h, show W64 1000 = true by decide]⟩
  · exact ⟨0, by simp [Φ, m_1, st, runB, sSeq, sSet, sFz, sLs, sCons, sNil, sTup, sErr, sVar, sC, sRet, sOp, sHn, sHv, res, look, opAdd, ofOpt, O.bind, O.bindS, startS, inSlot, LIM, outsAt, outOf, sIsi, isX, sLc, sLcL, sItL, sItT, gT, gC, gN, gZ, sTru, tru, plainAt, wipeS, bringS, sYes, sRetM, sDict, sIf, sB, cGe, pw18, opMul, h, show W64 1000 = true by decide]⟩
/-- the frame of law -/
def Fr (S : D) (σ : SS) : Prop := ∃ a b c d e, σ = [some (.val S), a, b, c, none, none, d, e, none, none, none, none, none]
theorem ab_ok : ∀ m : Nat, m < 50 → PyData.strOk (Txt.mul "ab" (m : Int)) = true := by decide +kernel
theorem pick (n d : Int) (h0 : 0 ≤ d) (h1 : d < 7) : ∃ x, opIx (.lst [.int n, .int (-n), .str (Txt.mul "ab" (n % 50)), .tup [.str "atom", .tup [.int 0, .int n]], .non, .tup [.int e30, .tup []], .tup [.int n, .int n, .int n, .int n, .int n, .int n, .int n, .int n, .int n]]) (.int d) = some x ∧ ok 200 x = true ∧ deq x x = true := by
  have ha : PyData.strOk (Txt.mul "ab" (n % 50)) = true := by
    have := ab_ok (n % 50).toNat (by omega)
    rwa [show (((n % 50).toNat : Nat) : Int) = n % 50 by omega] at this
  have hb : PyData.strOk "atom" = true := by decide +kernel
  rcases (by omega : d = 0 ∨ d = 1 ∨ d = 2 ∨ d = 3 ∨ d = 4 ∨ d = 5 ∨ d = 6) with rfl | rfl | rfl | rfl | rfl | rfl | rfl
  all_goals exact ⟨_, rfl, by simp [ok, okL, ha, hb], by simp [deq, deqL]⟩
theorem len_ab : ("ab" : Str).length ≤ 4000 := by decide +kernel
theorem turn (k : Nat) (S : D) (σ : SS) (hσ : Fr S σ) (kk : Nat) (cell : Int) (hk : kk ≤ 4) : ∃ σ1 σ2, gT (gC (gN 1) (gC (gN 2) gZ)) (.tup [.int kk, .int cell]) σ = some σ1 ∧ lb_7_0 (Φ (k + 3)) σ1 = .nx σ2 ∧ Fr S σ2 := by
  obtain ⟨a, b, c, d, e, rfl⟩ := hσ
  obtain ⟨l, hd⟩ := draw (k + 2) cell kk
  have hd : Φ (k + 3) 1 [.val (.int cell), .val (.int kk)] = .okm (st l cell (1000 * kk)) [.val (.int cell), .val (.int kk)] := hd
  obtain ⟨n, l1, t1, g1, n0, n1, q1, q2⟩ := digit (k + 1) l cell (1000 * (kk : Int)) 100000 (by decide) (by decide +kernel) (by omega) (by omega)
  obtain ⟨i, l2, t2, g2, i0, i1, _, _⟩ := digit (k + 1) l1 cell t1 7 (by decide) (by decide +kernel) (by omega) (by omega)
  have g1 : Φ (k + 3) 2 [.own (st l cell (1000 * (kk : Int))), .val (.int 100000)] = .ok (.int n) [.own (st l1 cell t1), .val (.int 100000)] := g1
  have g2 : Φ (k + 3) 2 [.own (st l1 cell t1), .val (.int 7)] = .ok (.int i) [.own (st l2 cell t2), .val (.int 7)] := g2
  obtain ⟨x, hx, x1, x2⟩ := pick n i i0 i1
  have r1 : Φ (k + 3) 6 [.val x] = .ok (.bl true) [.val x] := right (k + 1) x x1 x2
  have r2 : Φ (k + 3) 6 [.val (.int e5000)] = .ok (.bl true) [.val (.int e5000)] := right (k + 1) (.int e5000) (by simp [ok]) (by simp [deq])
  refine ⟨_, [some (.val S), some (.val (.int kk)), some (.val (.int cell)), some (.val (.lst [.int n, .int (-n), .str (Txt.mul "ab" (n % 50)), .tup [.str "atom", .tup [.int 0, .int n]], .non, .tup [.int e30, .tup []], .tup [.int n, .int n, .int n, .int n, .int n, .int n, .int n, .int n, .int n]])), none, none, some (.own (st l2 cell t2)), some (.val (.int n)), none, none, none, none, none], rfl, ?_, ⟨_, _, _, _, _, rfl⟩⟩
  have b1 : -1000 ≤ n % 50 := by omega
  have b2 : n % 50 ≤ 4000 := by omega
  simp [b1, b2, lb_7_0, runB, sSeq, sSet, sFz, sLs, sCons, sNil, sTup, sErr, sVar, sC, sRet, sOp, sHn, sHv, res, look, opAdd, ofOpt, O.bind, O.bindS, startS, inSlot, LIM, outsAt, outOf, sIsi, isX, sLc, sLcL, sItL, sItT, gT, gC, gN, gZ, sTru, tru, plainAt, wipeS, bringS, sYes, sOwnM, sCallM, sCall, sACons, sAv, sAs, sANil, slots, argsOf, argOf, putBack, put1, sIfS, sOrT, sNotT, hd, g1, g2, hx, r1, r2, pw30, pw50, pw2500, pw5000, opMul, opSub, opMod, len_ab, List.replicate]
end LW

set_option Elab.async false
set_option linter.all false
set_option maxRecDepth 100000
set_option maxHeartbeats 4000000
namespace LW
open PySem L2 TL
theorem forL_all {g : D → SS → Option SS} {b : SS → OS} (I : SS → Prop) (Pd : D → Prop) (step : ∀ d σ, Pd d → I σ → ∃ σ1 σ2, g d σ = some σ1 ∧ b σ1 = .nx σ2 ∧ I σ2) : ∀ ds σ, (∀ d ∈ ds, Pd d) → I σ → ∃ σ', sForL g b ds σ = .nx σ' ∧ I σ'
  | [], σ, _, h => ⟨σ, rfl, h⟩
  | d :: ds, σ, hd, h => by
    obtain ⟨σ1, σ2, e1, e2, h2⟩ := step d σ (hd d List.mem_cons_self) h
    obtain ⟨σ', e3, h3⟩ := forL_all I Pd step ds σ2 (fun x hx => hd x (List.mem_cons_of_mem _ hx)) h2
    exact ⟨σ', by unfold sForL; rw [e1]; dsimp only; rw [e2]; exact e3, h3⟩
theorem ints_of : ∀ ns : List Int, intsOf (ns.map D.int) = some ns
  | [] => rfl
  | n :: ns => by simp [intsOf, ints_of ns]
theorem num_mem {ds : List D} {d : D} (h : d ∈ num ds) : ∃ i, ∃ (hi : i < ds.length), d = .tup [.int (i : Nat), ds[i]] := by
  unfold num at h
  obtain ⟨i, hi, e⟩ := List.mem_mapIdx.mp h
  exact ⟨i, hi, e.symm⟩
def s30 : Str := toString e30
def s70 : Str := toString (70707 : Int)
theorem fe_0 (d : D) : fStr okc cm_ (.err 0 d) = some (.str "no such type") := rfl
theorem fe_1 (d : D) : fStr okc cm_ (.err 1 d) = some (.str "no such term") := rfl
theorem fe_2 (d : D) : fStr okc cm_ (.err 2 d) = some (.str "no such program") := rfl
theorem fe_3 (d : D) : fStr okc cm_ (.err 3 d) = some (.str "no such inputs") := rfl
theorem fe_4 (d : D) : fStr okc cm_ (.err 4 d) = some (.str "no such world") := rfl
theorem fe_5 (d : D) : fStr okc cm_ (.err 5 d) = some (.str "no such value") := rfl
theorem fe_6 (d : D) : fStr okc cm_ (.err 6 d) = some (.str "no such table") := rfl
theorem fe_7 (d : D) : fStr okc cm_ (.err 7 d) = some (.str "no such tests") := rfl
theorem fe_8 (d : D) : fStr okc cm_ (.err 8 d) = some (.str "no such code") := rfl
theorem fe_9 (d : D) : fStr okc cm_ (.err 9 d) = some (.str "no such text") := rfl
theorem fe_10 (d : D) : fStr okc cm_ (.err 10 d) = some (.str "no such number") := rfl
theorem fe_11 (d : D) : fStr okc cm_ (.err 11 d) = some (.str "no such letter") := rfl
theorem fe_12 (d : D) : fStr okc cm_ (.err 12 d) = some (.str "no such paper") := rfl
theorem fe_13 (d : D) : fStr okc cm_ (.err 13 d) = some (.str "no such deed") := rfl
theorem fe_14 (d : D) : fStr okc cm_ (.err 14 d) = some (.str "no such helpers") := rfl
theorem fe_15 (d : D) : fStr okc cm_ (.err 15 d) = some (.str "too many") := rfl
theorem fe_16 (d : D) : fStr okc cm_ (.err 16 d) = some (.str "nothing so called") := rfl
theorem lg30 : e30.natAbs.log2 < 1920 := by decide +kernel
theorem lg7 : (70707 : Int).natAbs.log2 < 1920 := by decide +kernel
theorem fi_30 : fStr okc cm_ (.int e30) = some (.str s30) := by
  show (if e30.natAbs.log2 < 1920 then some (D.str s30) else none) = _
  exact if_pos lg30
theorem fi_70 : fStr okc cm_ (.int 70707) = some (.str s70) := by
  show (if (70707 : Int).natAbs.log2 < 1920 then some (D.str s70) else none) = _
  exact if_pos lg7
theorem fi_zq : fStr okc cm_ (.str "zqzq") = some (.str "zqzq") := rfl
theorem hs_0_0 : hasSub "no such type" "zqzq" = false := by decide +kernel
theorem hs_0_1 : hasSub "no such type" s30 = false := by decide +kernel
theorem hs_0_2 : hasSub "no such type" s70 = false := by decide +kernel
theorem hs_1_0 : hasSub "no such term" "zqzq" = false := by decide +kernel
theorem hs_1_1 : hasSub "no such term" s30 = false := by decide +kernel
theorem hs_1_2 : hasSub "no such term" s70 = false := by decide +kernel
theorem hs_2_0 : hasSub "no such program" "zqzq" = false := by decide +kernel
theorem hs_2_1 : hasSub "no such program" s30 = false := by decide +kernel
theorem hs_2_2 : hasSub "no such program" s70 = false := by decide +kernel
theorem hs_3_0 : hasSub "no such inputs" "zqzq" = false := by decide +kernel
theorem hs_3_1 : hasSub "no such inputs" s30 = false := by decide +kernel
theorem hs_3_2 : hasSub "no such inputs" s70 = false := by decide +kernel
theorem hs_4_0 : hasSub "no such world" "zqzq" = false := by decide +kernel
theorem hs_4_1 : hasSub "no such world" s30 = false := by decide +kernel
theorem hs_4_2 : hasSub "no such world" s70 = false := by decide +kernel
theorem hs_5_0 : hasSub "no such value" "zqzq" = false := by decide +kernel
theorem hs_5_1 : hasSub "no such value" s30 = false := by decide +kernel
theorem hs_5_2 : hasSub "no such value" s70 = false := by decide +kernel
theorem hs_6_0 : hasSub "no such table" "zqzq" = false := by decide +kernel
theorem hs_6_1 : hasSub "no such table" s30 = false := by decide +kernel
theorem hs_6_2 : hasSub "no such table" s70 = false := by decide +kernel
theorem hs_7_0 : hasSub "no such tests" "zqzq" = false := by decide +kernel
theorem hs_7_1 : hasSub "no such tests" s30 = false := by decide +kernel
theorem hs_7_2 : hasSub "no such tests" s70 = false := by decide +kernel
theorem hs_8_0 : hasSub "no such code" "zqzq" = false := by decide +kernel
theorem hs_8_1 : hasSub "no such code" s30 = false := by decide +kernel
theorem hs_8_2 : hasSub "no such code" s70 = false := by decide +kernel
theorem hs_9_0 : hasSub "no such text" "zqzq" = false := by decide +kernel
theorem hs_9_1 : hasSub "no such text" s30 = false := by decide +kernel
theorem hs_9_2 : hasSub "no such text" s70 = false := by decide +kernel
theorem hs_10_0 : hasSub "no such number" "zqzq" = false := by decide +kernel
theorem hs_10_1 : hasSub "no such number" s30 = false := by decide +kernel
theorem hs_10_2 : hasSub "no such number" s70 = false := by decide +kernel
theorem hs_11_0 : hasSub "no such letter" "zqzq" = false := by decide +kernel
theorem hs_11_1 : hasSub "no such letter" s30 = false := by decide +kernel
theorem hs_11_2 : hasSub "no such letter" s70 = false := by decide +kernel
theorem hs_12_0 : hasSub "no such paper" "zqzq" = false := by decide +kernel
theorem hs_12_1 : hasSub "no such paper" s30 = false := by decide +kernel
theorem hs_12_2 : hasSub "no such paper" s70 = false := by decide +kernel
theorem hs_13_0 : hasSub "no such deed" "zqzq" = false := by decide +kernel
theorem hs_13_1 : hasSub "no such deed" s30 = false := by decide +kernel
theorem hs_13_2 : hasSub "no such deed" s70 = false := by decide +kernel
theorem hs_14_0 : hasSub "no such helpers" "zqzq" = false := by decide +kernel
theorem hs_14_1 : hasSub "no such helpers" s30 = false := by decide +kernel
theorem hs_14_2 : hasSub "no such helpers" s70 = false := by decide +kernel
theorem hs_15_0 : hasSub "too many" "zqzq" = false := by decide +kernel
theorem hs_15_1 : hasSub "too many" s30 = false := by decide +kernel
theorem hs_15_2 : hasSub "too many" s70 = false := by decide +kernel
theorem hs_16_0 : hasSub "nothing so called" "zqzq" = false := by decide +kernel
theorem hs_16_1 : hasSub "nothing so called" s30 = false := by decide +kernel
theorem hs_16_2 : hasSub "nothing so called" s70 = false := by decide +kernel
theorem one (k : Nat) (S : D) (σ : SS) (d : D) (hd : d = .str "zqzq" ∨ d = .int e30 ∨ d = .int 70707) (h : ∃ a b c x y z w u, σ = [some (.val S), a, b, some (.val c), some (.val x), y, z, w, u, none, none, none, none]) :
    ∃ σ1 σ2, gN 5 d σ = some σ1 ∧ lb_7_1 (Φ (k + 3)) σ1 = .nx σ2 ∧ ∃ a b c x y z w u, σ2 = [some (.val S), a, b, some (.val c), some (.val x), y, z, w, u, none, none, none, none] := by
  obtain ⟨a, b, c, x, y, z, w, u, rfl⟩ := h
  have v1 : Φ (k + 3) 4 [.val d] = _ := valued (k + 2) d
  have v2 : Φ (k + 3) 5 [.val d] = _ := placed (k + 2) d
  refine ⟨_, [some (.val S), a, b, some (.val c), some (.val x), some (.val d), z, w, some (.val (.lst [.err 10 d, .err 11 d, .err 0 d, .err 1 d, .err 2 d, .err 3 d, .err 4 d, .err 5 d, .err 6 d, .err 7 d, .err 8 d, .err 9 d, .err 12 d, .err 13 d, .err 14 d, .err 16 d, .err 15 d])), none, none, none, none], rfl, ?_, ⟨_, _, _, _, _, _, _, _, rfl⟩⟩
  rcases hd with rfl | rfl | rfl
  all_goals simp [lb_7_1, runB, sSeq, sSet, sFz, sLs, sCons, sNil, sTup, sErr, sVar, sC, sRet, sOp, sHn, sHv, res, look, opAdd, ofOpt, O.bind, O.bindS, startS, inSlot, LIM, outsAt, outOf, sIsi, isX, sLc, sLcL, sItL, sItT, gT, gC, gN, gZ, sTru, tru, plainAt, wipeS, bringS, sYes, sCall, sACons, sAv, sANil, slots, argsOf, argOf, putBack, sIfS, sB, v1, v2, sUn, fe_0, fe_1, fe_2, fe_3, fe_4, fe_5, fe_6, fe_7, fe_8, fe_9, fe_10, fe_11, fe_12, fe_13, fe_14, fe_15, fe_16, fi_30, fi_70, fi_zq, cIn, inD, cNe, ok, okL, deq, deqL, hs_0_0, hs_0_1, hs_0_2, hs_1_0, hs_1_1, hs_1_2, hs_2_0, hs_2_1, hs_2_2, hs_3_0, hs_3_1, hs_3_2, hs_4_0, hs_4_1, hs_4_2, hs_5_0, hs_5_1, hs_5_2, hs_6_0, hs_6_1, hs_6_2, hs_7_0, hs_7_1, hs_7_2, hs_8_0, hs_8_1, hs_8_2, hs_9_0, hs_9_1, hs_9_2, hs_10_0, hs_10_1, hs_10_2, hs_11_0, hs_11_1, hs_11_2, hs_12_0, hs_12_1, hs_12_2, hs_13_0, hs_13_1, hs_13_2, hs_14_0, hs_14_1, hs_14_2, hs_15_0, hs_15_1, hs_15_2, hs_16_0, hs_16_1, hs_16_2]
theorem law_true (ns : List Int) (hn : ns.length ≤ 63) : ∃ outs, Φ 6 7 [.val (.lst (ns.map D.int))] = .ok (.bl true) outs := by
  -- what the loop walks
  obtain ⟨ms, hms, hl⟩ : ∃ ms : List Int, cut (ns.map D.int) none (some 4) = ms.map D.int ∧ ms.length ≤ 4 := by
    refine ⟨ns.take (min 4 ns.length), ?_, by simp; omega⟩
    unfold cut
    rw [List.length_map, show HT.sIx ns.length ns.length (some 4) = min 4 ns.length from HT.sIx_nat _ _ 4, HT.sIx_none]
    simp [List.map_take]
  have src : ∀ d ∈ num (ms.map D.int ++ [.int ns.sum]), ∃ (kk : Nat) (cell : Int), kk ≤ 4 ∧ d = .tup [.int kk, .int cell] := fun d hd => by
    obtain ⟨i, hi, e⟩ := num_mem hd
    have hi2 : i < ms.length + 1 := by simpa using hi
    by_cases h : i < ms.length
    · exact ⟨i, ms[i], by omega, by rw [e, List.getElem_append_left (by simpa using h)]; simp⟩
    · exact ⟨i, ns.sum, by omega, by rw [e, List.getElem_append_right (by simpa using h)]; simp⟩
  obtain ⟨σ, e1, a, b, c, d, e, rfl⟩ := forL_all (g := gT (gC (gN 1) (gC (gN 2) gZ))) (b := lb_7_0 (Φ (2 + 3))) (Fr (.lst (ns.map D.int))) _ (fun d σ hd hσ => by
    obtain ⟨kk, cell, hk, rfl⟩ := hd
    exact turn 2 _ σ hσ kk cell hk) (num (ms.map D.int ++ [.int ns.sum])) [some (.val (.lst (ns.map D.int))), none, none, none, none, none, none, none, none, none, none, none, none] src ⟨_, _, _, _, _, rfl⟩
  have e1 : sForL (gT (gC (gN 1) (gC (gN 2) gZ))) (lb_7_0 (Φ 5)) (num (ms.map D.int ++ [.int ns.sum])) [some (.val (.lst (ns.map D.int))), none, none, none, none, none, none, none, none, none, none, none, none] = _ := e1
  obtain ⟨σ3, e3, a3, b3, c3, x3, y3, z3, w3, u3, rfl⟩ := forL_all (g := gN 5) (b := lb_7_1 (Φ (2 + 3))) (fun σ => ∃ a b c x y z w u, σ = [some (.val (.lst (ns.map D.int))), a, b, some (.val c), some (.val x), y, z, w, u, none, none, none, none]) _ (fun d σ hd hσ => one 2 _ σ d hd hσ) [.str "zqzq", .int e30, .int 70707]
    [some (.val (.lst (ns.map D.int))), a, b, some (.val (.lst [.err 10 .non, .err 11 .non, .err 16 .non])), some (.val (.lst [.err 0 .non, .err 1 .non, .err 2 .non, .err 3 .non, .err 4 .non, .err 5 .non, .err 6 .non, .err 7 .non, .err 8 .non, .err 9 .non, .err 12 .non, .err 13 .non, .err 14 .non])), none, d, e, none, none, none, none, none]
    (fun d hd => by simpa using hd) ⟨_, _, _, _, _, _, _, _, rfl⟩
  have e3 : sForL (gN 5) (lb_7_1 (Φ 5)) [.str "zqzq", .int e30, .int 70707] _ = _ := e3
  refine ⟨[.val (.lst (ns.map D.int))], ?_⟩
  show runB 13 1 (m_7 (Φ 5)) _ = _
  have lenm : ms.length + 1 ≤ 16777216 := by omega
  simp [m_7, runB, sSeq, sSet, sFz, sLs, sCons, sNil, sTup, sErr, sVar, sC, sRet, sOp, sHn, sHv, res, look, opAdd, ofOpt, O.bind, O.bindS, startS, inSlot, LIM, outsAt, outOf, sIsi, isX, sLc, sLcL, sItL, sItT, gT, gC, gN, gZ, sTru, tru, plainAt, wipeS, bringS, sYes, sFor, sEnum, sSl, sPart, opSl, hms, sUn, fSum, ints_of, lenm, e1, sIfS, sOrT, sB, cNe, ok, okL, deq, deqL, sFldE, q_BadCode, q_BadDeed, q_BadHelpers, q_BadInputs, q_BadLetter, q_BadNumber, q_BadPaper, q_BadProgram, q_BadTable, q_BadTerm, q_BadTests, q_BadText, q_BadType, q_BadValue, q_BadWorld, q_LookupError, q_NoSuch, q_OverflowError, q_SameError, q_TooMany, q_ValueError, fs_most, fs_place, fs_value, sRep, pw30, e3, List.replicate]
end LW

set_option Elab.async false
set_option linter.all false
set_option maxRecDepth 100000
set_option maxHeartbeats 0
namespace LW
open PySem PySem.Spec PyProof.Rows L2 TL
section
variable {P : Program} {w : World} {K : PySem.W.Frag} {mg : Str → Option Value} {base : Heap} {fa : Nat → Addr} {fd : Nat → FuncData} {ca ci : Nat → Addr} {cd : Nat → FuncData} {aS : Addr}
theorem all_fn (T : Txt P w K mg base fa fd ca ci cd aS) (F0 : Fun K "_law_mixed" "_law_mixed" s_0 (fa 0) (fd 0)) (F1 : Fun K "_law_draw" "_law_draw" s_1 (fa 1) (fd 1)) (F2 : Fun K "_law_digit" "_law_digit" s_2 (fa 2) (fd 2)) (F3 : Fun K "_law_kinds" "_law_kinds" s_3 (fa 3) (fd 3)) (F4 : Fun K "_law_valued" "_law_valued" s_4 (fa 4) (fd 4)) (F5 : Fun K "_law_placed" "_law_placed" s_5 (fa 5) (fd 5)) (F6 : Fun K "_law_right" "_law_right" s_6 (fa 6) (fd 6)) (F7 : Fun K "law" "law" s_7 (fa 7) (fd 7)) : ∀ k j, j < 8 → FnT P w K mg base (cn K ca) k (fa j) (fd j) (psT j) (Φ k j)
  | 0, _, _ => fnT_bad
  | k + 1, 0, _ => fnT_fun F0 sc_0 fun cdv A outer s H E hr => d_0 T (all_fn T F0 F1 F2 F3 F4 F5 F6 F7 k) hr
  | k + 1, 1, _ => fnT_fun F1 sc_1 fun cdv A outer s H E hr => d_1 T (all_fn T F0 F1 F2 F3 F4 F5 F6 F7 k) hr
  | k + 1, 2, _ => fnT_fun F2 sc_2 fun cdv A outer s H E hr => d_2 T (all_fn T F0 F1 F2 F3 F4 F5 F6 F7 k) hr
  | k + 1, 3, _ => fnT_fun F3 sc_3 fun cdv A outer s H E hr => d_3 T (all_fn T F0 F1 F2 F3 F4 F5 F6 F7 k) hr
  | k + 1, 4, _ => fnT_fun F4 sc_4 fun cdv A outer s H E hr => d_4 T (all_fn T F0 F1 F2 F3 F4 F5 F6 F7 k) hr
  | k + 1, 5, _ => fnT_fun F5 sc_5 fun cdv A outer s H E hr => d_5 T (all_fn T F0 F1 F2 F3 F4 F5 F6 F7 k) hr
  | k + 1, 6, _ => fnT_fun F6 sc_6 fun cdv A outer s H E hr => d_6 T (all_fn T F0 F1 F2 F3 F4 F5 F6 F7 k) hr
  | k + 1, 7, _ => fnT_fun F7 sc_7 fun cdv A outer s H E hr => d_7 T (all_fn T F0 F1 F2 F3 F4 F5 F6 F7 k) hr
  | k + 1, n + 8, h => absurd h (by omega)
end
theorem all_mk {P : Program} {w : World} {K : PySem.W.Frag} {h : Heap} {mg : Str → Option Value} {fl : Addr} (X : K.In h) (G : h.Ns mainGlobals mg) (hfl : mg "law" = some (.ref fl))
    {aS c0 fi0 c1 fi1 c2 fi2 c3 fi3 c4 fi4 c5 fi5 c6 fi6 c7 fi7 c8 fi8 c9 fi9 c10 fi10 c11 fi11 c12 fi12 c13 fi13 c14 fi14 c15 fi15 c16 fi16 aT0 aT1 aT2 aT3 aT4 aT5 aT6 aT7 aT8 aT9 aT10 aT11 aT12 aT13 aT14 aT16 f0 f1 f2 f3 f4 f5 f6 f7 : Addr} {oS oT0 oT1 oT2 oT3 oT4 oT5 oT6 oT7 oT8 oT9 oT10 oT11 oT12 oT13 oT14 oT16 oc0 oi0 oc1 oi1 oc2 oi2 oc3 oi3 oc4 oi4 oc5 oi5 oc6 oi6 oc7 oi7 oc8 oi8 oc9 oi9 oc10 oi10 oc11 oi11 oc12 oi12 oc13 oi13 oc14 oi14 oc15 oi15 oc16 oi16 of0 of1 of2 of3 of4 of5 of6 of7 : Obj} {dv0 cv0 dv1 cv1 dv2 cv2 dv3 cv3 dv4 cv4 dv5 cv5 dv6 cv6 dv7 cv7 dv8 cv8 dv9 cv9 dv10 cv10 dv11 cv11 dv12 cv12 dv13 cv13 dv14 cv14 dv15 cv15 dv16 cv16 cw0 cw1 cw2 cw3 cw4 cw5 cw6 cw7 : Value}
    (gS : PySem.W.nsIn K mainGlobals "SameError" = some (some (.ref aS)))
    (lS : K.lookup aS = some oS)
    (eS : ∃ q N bs sn sub ab col dd k0 k1 k2 k3 k5, oS = excClassObj "SameError" q aS N bs (bmOf aS 3) true sn sub ab col dd k0 k1 k2 k3 k5 (newOf 3))
    (tS : PySem.W.typeIn K (.ref aS) = some (.type "type"))
    (rS : PySem.W.readsIn K aS (.type "type") = true)
    (sS : PySem.W.specialIn K (.ref aS) "__getattribute__" = some (some (.builtin "type.__getattribute__")))
    (fS : PySem.W.findCls K (.ref aS) (.type "type") "__init__" = some (.val (.builtin "ValueError.__init__")))
    (fB1 : PySem.W.findCls K (.type "OverflowError") (.type "type") "__init__" = some (.val (.builtin "OverflowError.__init__")))
    (fB2 : PySem.W.findCls K (.type "LookupError") (.type "type") "__init__" = some (.val (.builtin "LookupError.__init__")))
    (a0 : PySem.W.nsIn K mainGlobals "BadType" = some (some (.ref c0)))
    (z0 : KCls K aS 0 "BadType" "place" c0 oc0)
    (y0 : KIni K "BadType.__init__" i_0 c0 fi0 oi0 dv0 cv0)
    (w0 : dv0 = .ref aT0)
    (v0 : K.lookup aT0 = some oT0)
    (x0 : ∃ cl dd n sl, oT0 = ⟨cl, dd, .seq #[.none] n, sl⟩)
    (a1 : PySem.W.nsIn K mainGlobals "BadTerm" = some (some (.ref c1)))
    (z1 : KCls K aS 0 "BadTerm" "place" c1 oc1)
    (y1 : KIni K "BadTerm.__init__" i_1 c1 fi1 oi1 dv1 cv1)
    (w1 : dv1 = .ref aT1)
    (v1 : K.lookup aT1 = some oT1)
    (x1 : ∃ cl dd n sl, oT1 = ⟨cl, dd, .seq #[.none] n, sl⟩)
    (a2 : PySem.W.nsIn K mainGlobals "BadProgram" = some (some (.ref c2)))
    (z2 : KCls K aS 0 "BadProgram" "place" c2 oc2)
    (y2 : KIni K "BadProgram.__init__" i_2 c2 fi2 oi2 dv2 cv2)
    (w2 : dv2 = .ref aT2)
    (v2 : K.lookup aT2 = some oT2)
    (x2 : ∃ cl dd n sl, oT2 = ⟨cl, dd, .seq #[.none] n, sl⟩)
    (a3 : PySem.W.nsIn K mainGlobals "BadInputs" = some (some (.ref c3)))
    (z3 : KCls K aS 0 "BadInputs" "place" c3 oc3)
    (y3 : KIni K "BadInputs.__init__" i_3 c3 fi3 oi3 dv3 cv3)
    (w3 : dv3 = .ref aT3)
    (v3 : K.lookup aT3 = some oT3)
    (x3 : ∃ cl dd n sl, oT3 = ⟨cl, dd, .seq #[.none] n, sl⟩)
    (a4 : PySem.W.nsIn K mainGlobals "BadWorld" = some (some (.ref c4)))
    (z4 : KCls K aS 0 "BadWorld" "place" c4 oc4)
    (y4 : KIni K "BadWorld.__init__" i_4 c4 fi4 oi4 dv4 cv4)
    (w4 : dv4 = .ref aT4)
    (v4 : K.lookup aT4 = some oT4)
    (x4 : ∃ cl dd n sl, oT4 = ⟨cl, dd, .seq #[.none] n, sl⟩)
    (a5 : PySem.W.nsIn K mainGlobals "BadValue" = some (some (.ref c5)))
    (z5 : KCls K aS 0 "BadValue" "place" c5 oc5)
    (y5 : KIni K "BadValue.__init__" i_5 c5 fi5 oi5 dv5 cv5)
    (w5 : dv5 = .ref aT5)
    (v5 : K.lookup aT5 = some oT5)
    (x5 : ∃ cl dd n sl, oT5 = ⟨cl, dd, .seq #[.none] n, sl⟩)
    (a6 : PySem.W.nsIn K mainGlobals "BadTable" = some (some (.ref c6)))
    (z6 : KCls K aS 0 "BadTable" "place" c6 oc6)
    (y6 : KIni K "BadTable.__init__" i_6 c6 fi6 oi6 dv6 cv6)
    (w6 : dv6 = .ref aT6)
    (v6 : K.lookup aT6 = some oT6)
    (x6 : ∃ cl dd n sl, oT6 = ⟨cl, dd, .seq #[.none] n, sl⟩)
    (a7 : PySem.W.nsIn K mainGlobals "BadTests" = some (some (.ref c7)))
    (z7 : KCls K aS 0 "BadTests" "place" c7 oc7)
    (y7 : KIni K "BadTests.__init__" i_7 c7 fi7 oi7 dv7 cv7)
    (w7 : dv7 = .ref aT7)
    (v7 : K.lookup aT7 = some oT7)
    (x7 : ∃ cl dd n sl, oT7 = ⟨cl, dd, .seq #[.none] n, sl⟩)
    (a8 : PySem.W.nsIn K mainGlobals "BadCode" = some (some (.ref c8)))
    (z8 : KCls K aS 0 "BadCode" "place" c8 oc8)
    (y8 : KIni K "BadCode.__init__" i_8 c8 fi8 oi8 dv8 cv8)
    (w8 : dv8 = .ref aT8)
    (v8 : K.lookup aT8 = some oT8)
    (x8 : ∃ cl dd n sl, oT8 = ⟨cl, dd, .seq #[.none] n, sl⟩)
    (a9 : PySem.W.nsIn K mainGlobals "BadText" = some (some (.ref c9)))
    (z9 : KCls K aS 0 "BadText" "place" c9 oc9)
    (y9 : KIni K "BadText.__init__" i_9 c9 fi9 oi9 dv9 cv9)
    (w9 : dv9 = .ref aT9)
    (v9 : K.lookup aT9 = some oT9)
    (x9 : ∃ cl dd n sl, oT9 = ⟨cl, dd, .seq #[.none] n, sl⟩)
    (a10 : PySem.W.nsIn K mainGlobals "BadNumber" = some (some (.ref c10)))
    (z10 : KCls K aS 0 "BadNumber" "value" c10 oc10)
    (y10 : KIni K "BadNumber.__init__" i_10 c10 fi10 oi10 dv10 cv10)
    (w10 : dv10 = .ref aT10)
    (v10 : K.lookup aT10 = some oT10)
    (x10 : ∃ cl dd n sl, oT10 = ⟨cl, dd, .seq #[.none] n, sl⟩)
    (a11 : PySem.W.nsIn K mainGlobals "BadLetter" = some (some (.ref c11)))
    (z11 : KCls K aS 0 "BadLetter" "value" c11 oc11)
    (y11 : KIni K "BadLetter.__init__" i_11 c11 fi11 oi11 dv11 cv11)
    (w11 : dv11 = .ref aT11)
    (v11 : K.lookup aT11 = some oT11)
    (x11 : ∃ cl dd n sl, oT11 = ⟨cl, dd, .seq #[.none] n, sl⟩)
    (a12 : PySem.W.nsIn K mainGlobals "BadPaper" = some (some (.ref c12)))
    (z12 : KCls K aS 0 "BadPaper" "place" c12 oc12)
    (y12 : KIni K "BadPaper.__init__" i_12 c12 fi12 oi12 dv12 cv12)
    (w12 : dv12 = .ref aT12)
    (v12 : K.lookup aT12 = some oT12)
    (x12 : ∃ cl dd n sl, oT12 = ⟨cl, dd, .seq #[.none] n, sl⟩)
    (a13 : PySem.W.nsIn K mainGlobals "BadDeed" = some (some (.ref c13)))
    (z13 : KCls K aS 0 "BadDeed" "place" c13 oc13)
    (y13 : KIni K "BadDeed.__init__" i_13 c13 fi13 oi13 dv13 cv13)
    (w13 : dv13 = .ref aT13)
    (v13 : K.lookup aT13 = some oT13)
    (x13 : ∃ cl dd n sl, oT13 = ⟨cl, dd, .seq #[.none] n, sl⟩)
    (a14 : PySem.W.nsIn K mainGlobals "BadHelpers" = some (some (.ref c14)))
    (z14 : KCls K aS 0 "BadHelpers" "place" c14 oc14)
    (y14 : KIni K "BadHelpers.__init__" i_14 c14 fi14 oi14 dv14 cv14)
    (w14 : dv14 = .ref aT14)
    (v14 : K.lookup aT14 = some oT14)
    (x14 : ∃ cl dd n sl, oT14 = ⟨cl, dd, .seq #[.none] n, sl⟩)
    (a15 : PySem.W.nsIn K mainGlobals "TooMany" = some (some (.ref c15)))
    (z15 : KCls K aS 1 "TooMany" "most" c15 oc15)
    (y15 : KIni K "TooMany.__init__" i_15 c15 fi15 oi15 dv15 cv15)
    (w15 : dv15 = .none)
    (a16 : PySem.W.nsIn K mainGlobals "NoSuch" = some (some (.ref c16)))
    (z16 : KCls K aS 2 "NoSuch" "value" c16 oc16)
    (y16 : KIni K "NoSuch.__init__" i_16 c16 fi16 oi16 dv16 cv16)
    (w16 : dv16 = .ref aT16)
    (v16 : K.lookup aT16 = some oT16)
    (x16 : ∃ cl dd n sl, oT16 = ⟨cl, dd, .seq #[.none] n, sl⟩)
    (k0 : KDef K "_law_mixed" s_0 f0 of0 cw0)
    (k1 : KDef K "_law_draw" s_1 f1 of1 cw1)
    (k2 : KDef K "_law_digit" s_2 f2 of2 cw2)
    (k3 : KDef K "_law_kinds" s_3 f3 of3 cw3)
    (k4 : KDef K "_law_valued" s_4 f4 of4 cw4)
    (k5 : KDef K "_law_placed" s_5 f5 of5 cw5)
    (k6 : KDef K "_law_right" s_6 f6 of6 cw6)
    (k7 : KDef K "law" s_7 f7 of7 cw7)
    (n_LookupError : PySem.W.nsIn K mainGlobals "LookupError" = some none)
    (n_OverflowError : PySem.W.nsIn K mainGlobals "OverflowError" = some none)
    (n_ValueError : PySem.W.nsIn K mainGlobals "ValueError" = some none)
    (n_enumerate : PySem.W.nsIn K mainGlobals "enumerate" = some none)
    (n_isinstance : PySem.W.nsIn K mainGlobals "isinstance" = some none)
    (n_range : PySem.W.nsIn K mainGlobals "range" = some none)
    (n_str : PySem.W.nsIn K mainGlobals "str" = some none)
    (n_sum : PySem.W.nsIn K mainGlobals "sum" = some none)
    (g6 : PySem.W.specialIn K (.builtin "object.__class__") "__get__" = some (some (.builtin "getset_descriptor.__get__")))
    (g7 : PySem.W.takesIn K (.builtin "object.__class__") = some true)
    : ∃ (C : Cn) (fd : FuncData), C.K = K ∧ C.T = [] ∧ (∀ (s : Shared) (u : Value), BindsTo s fd ⟨[u], []⟩ [("script", u)]) ∧ ∀ base : Heap, K.In base → base.Ns mainGlobals mg → FnT P w K mg base C 6 fl fd ["script"] (Φ 6 7) := by
  have e0 := hfl.symm.trans (k7.mg X G)
  cases e0
  obtain ⟨d0, F0, kV0, dc0, pm0, an0, ct0, eF0⟩ := k0.fun_
  obtain ⟨d1, F1, kV1, dc1, pm1, an1, ct1, eF1⟩ := k1.fun_
  obtain ⟨d2, F2, kV2, dc2, pm2, an2, ct2, eF2⟩ := k2.fun_
  obtain ⟨d3, F3, kV3, dc3, pm3, an3, ct3, eF3⟩ := k3.fun_
  obtain ⟨d4, F4, kV4, dc4, pm4, an4, ct4, eF4⟩ := k4.fun_
  obtain ⟨d5, F5, kV5, dc5, pm5, an5, ct5, eF5⟩ := k5.fun_
  obtain ⟨d6, F6, kV6, dc6, pm6, an6, ct6, eF6⟩ := k6.fun_
  obtain ⟨d7, F7, kV7, dc7, pm7, an7, ct7, eF7⟩ := k7.fun_
  have oS3 : KObj K aS 3 "SameError" aS oS := ⟨lS, eS⟩
  refine ⟨cn K (fun i => ([c0, c1, c2, c3, c4, c5, c6, c7, c8, c9, c10, c11, c12, c13, c14, c15, c16] : List Addr).getD i 0), d7, rfl, rfl, fun s u => ?_, fun base _ _ => ?_⟩
  · subst eF7; exact .of_eq rfl
  have mS := PySem.W.mg_of X G gS
  have u_LookupError := PySem.W.mg_none_of X G n_LookupError
  have u_OverflowError := PySem.W.mg_none_of X G n_OverflowError
  have u_ValueError := PySem.W.mg_none_of X G n_ValueError
  have u_enumerate := PySem.W.mg_none_of X G n_enumerate
  have u_isinstance := PySem.W.mg_none_of X G n_isinstance
  have u_range := PySem.W.mg_none_of X G n_range
  have u_str := PySem.W.mg_none_of X G n_str
  have u_sum := PySem.W.mg_none_of X G n_sum
  have B0 : ∀ (Y : Cx) (p1 : Pos), Y.K = K → Y.mg = mg → Gl Y "SameError" → BaseAt Y "SameError" p1 (iniOf 0) := fun Y p1 h1 h2 hg => baseAt_own hg (by rw [h2]; exact mS) ⟨by rw [h1]; exact rS, by rw [h1]; exact sS⟩ (by rw [h1]; exact fS)
  have B1 : ∀ (Y : Cx) (p1 : Pos), Y.K = K → Y.mg = mg → Gl Y "OverflowError" → BaseAt Y "OverflowError" p1 (iniOf 1) := fun Y p1 h1 h2 hg => baseAt_blt (T := "OverflowError") hg (by rw [h2]; exact u_OverflowError) rfl ty_1 (by decide +kernel) (by rw [h1]; exact fB1)
  have B2 : ∀ (Y : Cx) (p1 : Pos), Y.K = K → Y.mg = mg → Gl Y "LookupError" → BaseAt Y "LookupError" p1 (iniOf 2) := fun Y p1 h1 h2 hg => baseAt_blt (T := "LookupError") hg (by rw [h2]; exact u_LookupError) rfl ty_2 (by decide +kernel) (by rw [h1]; exact fB2)
  obtain ⟨e0, Z0, E0⟩ := clsO_of (P := P) (w := w) (mg := mg) (base := base) (bn := "SameError") (m := "no such type") z0 (by decide) y0 (b := true) ⟨aT0, oT0, w0, v0, x0⟩ si_0 (by decide) (by decide) ⟨_, _, _, _, _, _, _, _, _, _, _, rfl, fun _ _ => rfl, fun _ _ => ⟨_, rfl⟩, fun _ _ => rfl, fun _ _ => rfl⟩ B0
  have A0 := cAll_d Z0 E0 (fun _ _ _ _ _ _ _ us its h1 h2 => match us, its, h1, h2 with | [_, _], [_], _, _ => ⟨_, rfl, rfl⟩) (fun _ _ _ _ _ _ _ us its h1 h2 => match us, its, h1, h2 with | [_], [_], _, _ => ⟨_, rfl, rfl⟩) (fun _ _ _ _ _ _ _ us its ws h1 h2 h3 => match us, its, ws, h1, h2, h3 with | [_], [_], [_], _, _, _ => ⟨_, rfl, rfl⟩)
  obtain ⟨e1, Z1, E1⟩ := clsO_of (P := P) (w := w) (mg := mg) (base := base) (bn := "SameError") (m := "no such term") z1 (by decide) y1 (b := true) ⟨aT1, oT1, w1, v1, x1⟩ si_1 (by decide) (by decide) ⟨_, _, _, _, _, _, _, _, _, _, _, rfl, fun _ _ => rfl, fun _ _ => ⟨_, rfl⟩, fun _ _ => rfl, fun _ _ => rfl⟩ B0
  have A1 := cAll_d Z1 E1 (fun _ _ _ _ _ _ _ us its h1 h2 => match us, its, h1, h2 with | [_, _], [_], _, _ => ⟨_, rfl, rfl⟩) (fun _ _ _ _ _ _ _ us its h1 h2 => match us, its, h1, h2 with | [_], [_], _, _ => ⟨_, rfl, rfl⟩) (fun _ _ _ _ _ _ _ us its ws h1 h2 h3 => match us, its, ws, h1, h2, h3 with | [_], [_], [_], _, _, _ => ⟨_, rfl, rfl⟩)
  obtain ⟨e2, Z2, E2⟩ := clsO_of (P := P) (w := w) (mg := mg) (base := base) (bn := "SameError") (m := "no such program") z2 (by decide) y2 (b := true) ⟨aT2, oT2, w2, v2, x2⟩ si_2 (by decide) (by decide) ⟨_, _, _, _, _, _, _, _, _, _, _, rfl, fun _ _ => rfl, fun _ _ => ⟨_, rfl⟩, fun _ _ => rfl, fun _ _ => rfl⟩ B0
  have A2 := cAll_d Z2 E2 (fun _ _ _ _ _ _ _ us its h1 h2 => match us, its, h1, h2 with | [_, _], [_], _, _ => ⟨_, rfl, rfl⟩) (fun _ _ _ _ _ _ _ us its h1 h2 => match us, its, h1, h2 with | [_], [_], _, _ => ⟨_, rfl, rfl⟩) (fun _ _ _ _ _ _ _ us its ws h1 h2 h3 => match us, its, ws, h1, h2, h3 with | [_], [_], [_], _, _, _ => ⟨_, rfl, rfl⟩)
  obtain ⟨e3, Z3, E3⟩ := clsO_of (P := P) (w := w) (mg := mg) (base := base) (bn := "SameError") (m := "no such inputs") z3 (by decide) y3 (b := true) ⟨aT3, oT3, w3, v3, x3⟩ si_3 (by decide) (by decide) ⟨_, _, _, _, _, _, _, _, _, _, _, rfl, fun _ _ => rfl, fun _ _ => ⟨_, rfl⟩, fun _ _ => rfl, fun _ _ => rfl⟩ B0
  have A3 := cAll_d Z3 E3 (fun _ _ _ _ _ _ _ us its h1 h2 => match us, its, h1, h2 with | [_, _], [_], _, _ => ⟨_, rfl, rfl⟩) (fun _ _ _ _ _ _ _ us its h1 h2 => match us, its, h1, h2 with | [_], [_], _, _ => ⟨_, rfl, rfl⟩) (fun _ _ _ _ _ _ _ us its ws h1 h2 h3 => match us, its, ws, h1, h2, h3 with | [_], [_], [_], _, _, _ => ⟨_, rfl, rfl⟩)
  obtain ⟨e4, Z4, E4⟩ := clsO_of (P := P) (w := w) (mg := mg) (base := base) (bn := "SameError") (m := "no such world") z4 (by decide) y4 (b := true) ⟨aT4, oT4, w4, v4, x4⟩ si_4 (by decide) (by decide) ⟨_, _, _, _, _, _, _, _, _, _, _, rfl, fun _ _ => rfl, fun _ _ => ⟨_, rfl⟩, fun _ _ => rfl, fun _ _ => rfl⟩ B0
  have A4 := cAll_d Z4 E4 (fun _ _ _ _ _ _ _ us its h1 h2 => match us, its, h1, h2 with | [_, _], [_], _, _ => ⟨_, rfl, rfl⟩) (fun _ _ _ _ _ _ _ us its h1 h2 => match us, its, h1, h2 with | [_], [_], _, _ => ⟨_, rfl, rfl⟩) (fun _ _ _ _ _ _ _ us its ws h1 h2 h3 => match us, its, ws, h1, h2, h3 with | [_], [_], [_], _, _, _ => ⟨_, rfl, rfl⟩)
  obtain ⟨e5, Z5, E5⟩ := clsO_of (P := P) (w := w) (mg := mg) (base := base) (bn := "SameError") (m := "no such value") z5 (by decide) y5 (b := true) ⟨aT5, oT5, w5, v5, x5⟩ si_5 (by decide) (by decide) ⟨_, _, _, _, _, _, _, _, _, _, _, rfl, fun _ _ => rfl, fun _ _ => ⟨_, rfl⟩, fun _ _ => rfl, fun _ _ => rfl⟩ B0
  have A5 := cAll_d Z5 E5 (fun _ _ _ _ _ _ _ us its h1 h2 => match us, its, h1, h2 with | [_, _], [_], _, _ => ⟨_, rfl, rfl⟩) (fun _ _ _ _ _ _ _ us its h1 h2 => match us, its, h1, h2 with | [_], [_], _, _ => ⟨_, rfl, rfl⟩) (fun _ _ _ _ _ _ _ us its ws h1 h2 h3 => match us, its, ws, h1, h2, h3 with | [_], [_], [_], _, _, _ => ⟨_, rfl, rfl⟩)
  obtain ⟨e6, Z6, E6⟩ := clsO_of (P := P) (w := w) (mg := mg) (base := base) (bn := "SameError") (m := "no such table") z6 (by decide) y6 (b := true) ⟨aT6, oT6, w6, v6, x6⟩ si_6 (by decide) (by decide) ⟨_, _, _, _, _, _, _, _, _, _, _, rfl, fun _ _ => rfl, fun _ _ => ⟨_, rfl⟩, fun _ _ => rfl, fun _ _ => rfl⟩ B0
  have A6 := cAll_d Z6 E6 (fun _ _ _ _ _ _ _ us its h1 h2 => match us, its, h1, h2 with | [_, _], [_], _, _ => ⟨_, rfl, rfl⟩) (fun _ _ _ _ _ _ _ us its h1 h2 => match us, its, h1, h2 with | [_], [_], _, _ => ⟨_, rfl, rfl⟩) (fun _ _ _ _ _ _ _ us its ws h1 h2 h3 => match us, its, ws, h1, h2, h3 with | [_], [_], [_], _, _, _ => ⟨_, rfl, rfl⟩)
  obtain ⟨e7, Z7, E7⟩ := clsO_of (P := P) (w := w) (mg := mg) (base := base) (bn := "SameError") (m := "no such tests") z7 (by decide) y7 (b := true) ⟨aT7, oT7, w7, v7, x7⟩ si_7 (by decide) (by decide) ⟨_, _, _, _, _, _, _, _, _, _, _, rfl, fun _ _ => rfl, fun _ _ => ⟨_, rfl⟩, fun _ _ => rfl, fun _ _ => rfl⟩ B0
  have A7 := cAll_d Z7 E7 (fun _ _ _ _ _ _ _ us its h1 h2 => match us, its, h1, h2 with | [_, _], [_], _, _ => ⟨_, rfl, rfl⟩) (fun _ _ _ _ _ _ _ us its h1 h2 => match us, its, h1, h2 with | [_], [_], _, _ => ⟨_, rfl, rfl⟩) (fun _ _ _ _ _ _ _ us its ws h1 h2 h3 => match us, its, ws, h1, h2, h3 with | [_], [_], [_], _, _, _ => ⟨_, rfl, rfl⟩)
  obtain ⟨e8, Z8, E8⟩ := clsO_of (P := P) (w := w) (mg := mg) (base := base) (bn := "SameError") (m := "no such code") z8 (by decide) y8 (b := true) ⟨aT8, oT8, w8, v8, x8⟩ si_8 (by decide) (by decide) ⟨_, _, _, _, _, _, _, _, _, _, _, rfl, fun _ _ => rfl, fun _ _ => ⟨_, rfl⟩, fun _ _ => rfl, fun _ _ => rfl⟩ B0
  have A8 := cAll_d Z8 E8 (fun _ _ _ _ _ _ _ us its h1 h2 => match us, its, h1, h2 with | [_, _], [_], _, _ => ⟨_, rfl, rfl⟩) (fun _ _ _ _ _ _ _ us its h1 h2 => match us, its, h1, h2 with | [_], [_], _, _ => ⟨_, rfl, rfl⟩) (fun _ _ _ _ _ _ _ us its ws h1 h2 h3 => match us, its, ws, h1, h2, h3 with | [_], [_], [_], _, _, _ => ⟨_, rfl, rfl⟩)
  obtain ⟨e9, Z9, E9⟩ := clsO_of (P := P) (w := w) (mg := mg) (base := base) (bn := "SameError") (m := "no such text") z9 (by decide) y9 (b := true) ⟨aT9, oT9, w9, v9, x9⟩ si_9 (by decide) (by decide) ⟨_, _, _, _, _, _, _, _, _, _, _, rfl, fun _ _ => rfl, fun _ _ => ⟨_, rfl⟩, fun _ _ => rfl, fun _ _ => rfl⟩ B0
  have A9 := cAll_d Z9 E9 (fun _ _ _ _ _ _ _ us its h1 h2 => match us, its, h1, h2 with | [_, _], [_], _, _ => ⟨_, rfl, rfl⟩) (fun _ _ _ _ _ _ _ us its h1 h2 => match us, its, h1, h2 with | [_], [_], _, _ => ⟨_, rfl, rfl⟩) (fun _ _ _ _ _ _ _ us its ws h1 h2 h3 => match us, its, ws, h1, h2, h3 with | [_], [_], [_], _, _, _ => ⟨_, rfl, rfl⟩)
  obtain ⟨e10, Z10, E10⟩ := clsO_of (P := P) (w := w) (mg := mg) (base := base) (bn := "SameError") (m := "no such number") z10 (by decide) y10 (b := true) ⟨aT10, oT10, w10, v10, x10⟩ si_10 (by decide) (by decide) ⟨_, _, _, _, _, _, _, _, _, _, _, rfl, fun _ _ => rfl, fun _ _ => ⟨_, rfl⟩, fun _ _ => rfl, fun _ _ => rfl⟩ B0
  have A10 := cAll_d Z10 E10 (fun _ _ _ _ _ _ _ us its h1 h2 => match us, its, h1, h2 with | [_, _], [_], _, _ => ⟨_, rfl, rfl⟩) (fun _ _ _ _ _ _ _ us its h1 h2 => match us, its, h1, h2 with | [_], [_], _, _ => ⟨_, rfl, rfl⟩) (fun _ _ _ _ _ _ _ us its ws h1 h2 h3 => match us, its, ws, h1, h2, h3 with | [_], [_], [_], _, _, _ => ⟨_, rfl, rfl⟩)
  obtain ⟨e11, Z11, E11⟩ := clsO_of (P := P) (w := w) (mg := mg) (base := base) (bn := "SameError") (m := "no such letter") z11 (by decide) y11 (b := true) ⟨aT11, oT11, w11, v11, x11⟩ si_11 (by decide) (by decide) ⟨_, _, _, _, _, _, _, _, _, _, _, rfl, fun _ _ => rfl, fun _ _ => ⟨_, rfl⟩, fun _ _ => rfl, fun _ _ => rfl⟩ B0
  have A11 := cAll_d Z11 E11 (fun _ _ _ _ _ _ _ us its h1 h2 => match us, its, h1, h2 with | [_, _], [_], _, _ => ⟨_, rfl, rfl⟩) (fun _ _ _ _ _ _ _ us its h1 h2 => match us, its, h1, h2 with | [_], [_], _, _ => ⟨_, rfl, rfl⟩) (fun _ _ _ _ _ _ _ us its ws h1 h2 h3 => match us, its, ws, h1, h2, h3 with | [_], [_], [_], _, _, _ => ⟨_, rfl, rfl⟩)
  obtain ⟨e12, Z12, E12⟩ := clsO_of (P := P) (w := w) (mg := mg) (base := base) (bn := "SameError") (m := "no such paper") z12 (by decide) y12 (b := true) ⟨aT12, oT12, w12, v12, x12⟩ si_12 (by decide) (by decide) ⟨_, _, _, _, _, _, _, _, _, _, _, rfl, fun _ _ => rfl, fun _ _ => ⟨_, rfl⟩, fun _ _ => rfl, fun _ _ => rfl⟩ B0
  have A12 := cAll_d Z12 E12 (fun _ _ _ _ _ _ _ us its h1 h2 => match us, its, h1, h2 with | [_, _], [_], _, _ => ⟨_, rfl, rfl⟩) (fun _ _ _ _ _ _ _ us its h1 h2 => match us, its, h1, h2 with | [_], [_], _, _ => ⟨_, rfl, rfl⟩) (fun _ _ _ _ _ _ _ us its ws h1 h2 h3 => match us, its, ws, h1, h2, h3 with | [_], [_], [_], _, _, _ => ⟨_, rfl, rfl⟩)
  obtain ⟨e13, Z13, E13⟩ := clsO_of (P := P) (w := w) (mg := mg) (base := base) (bn := "SameError") (m := "no such deed") z13 (by decide) y13 (b := true) ⟨aT13, oT13, w13, v13, x13⟩ si_13 (by decide) (by decide) ⟨_, _, _, _, _, _, _, _, _, _, _, rfl, fun _ _ => rfl, fun _ _ => ⟨_, rfl⟩, fun _ _ => rfl, fun _ _ => rfl⟩ B0
  have A13 := cAll_d Z13 E13 (fun _ _ _ _ _ _ _ us its h1 h2 => match us, its, h1, h2 with | [_, _], [_], _, _ => ⟨_, rfl, rfl⟩) (fun _ _ _ _ _ _ _ us its h1 h2 => match us, its, h1, h2 with | [_], [_], _, _ => ⟨_, rfl, rfl⟩) (fun _ _ _ _ _ _ _ us its ws h1 h2 h3 => match us, its, ws, h1, h2, h3 with | [_], [_], [_], _, _, _ => ⟨_, rfl, rfl⟩)
  obtain ⟨e14, Z14, E14⟩ := clsO_of (P := P) (w := w) (mg := mg) (base := base) (bn := "SameError") (m := "no such helpers") z14 (by decide) y14 (b := true) ⟨aT14, oT14, w14, v14, x14⟩ si_14 (by decide) (by decide) ⟨_, _, _, _, _, _, _, _, _, _, _, rfl, fun _ _ => rfl, fun _ _ => ⟨_, rfl⟩, fun _ _ => rfl, fun _ _ => rfl⟩ B0
  have A14 := cAll_d Z14 E14 (fun _ _ _ _ _ _ _ us its h1 h2 => match us, its, h1, h2 with | [_, _], [_], _, _ => ⟨_, rfl, rfl⟩) (fun _ _ _ _ _ _ _ us its h1 h2 => match us, its, h1, h2 with | [_], [_], _, _ => ⟨_, rfl, rfl⟩) (fun _ _ _ _ _ _ _ us its ws h1 h2 h3 => match us, its, ws, h1, h2, h3 with | [_], [_], [_], _, _, _ => ⟨_, rfl, rfl⟩)
  obtain ⟨e15, Z15, E15⟩ := clsO_of (P := P) (w := w) (mg := mg) (base := base) (bn := "OverflowError") (m := "too many") z15 (by decide) y15 (b := false) w15 si_15 (by decide) (by decide) ⟨_, _, _, _, _, _, _, _, _, _, _, rfl, fun _ _ => rfl, fun _ _ => ⟨_, rfl⟩, fun _ _ => rfl, fun _ _ => rfl⟩ B1
  have A15 := cAll_n Z15 E15 (fun _ _ _ _ _ _ us hl => match us, hl with | [_, _], _ => rfl) (fun _ _ _ _ _ _ _ _ => rfl)
  obtain ⟨e16, Z16, E16⟩ := clsO_of (P := P) (w := w) (mg := mg) (base := base) (bn := "LookupError") (m := "nothing so called") z16 (by decide) y16 (b := true) ⟨aT16, oT16, w16, v16, x16⟩ si_16 (by decide) (by decide) ⟨_, _, _, _, _, _, _, _, _, _, _, rfl, fun _ _ => rfl, fun _ _ => ⟨_, rfl⟩, fun _ _ => rfl, fun _ _ => rfl⟩ B2
  have A16 := cAll_d Z16 E16 (fun _ _ _ _ _ _ _ us its h1 h2 => match us, its, h1, h2 with | [_, _], [_], _, _ => ⟨_, rfl, rfl⟩) (fun _ _ _ _ _ _ _ us its h1 h2 => match us, its, h1, h2 with | [_], [_], _, _ => ⟨_, rfl, rfl⟩) (fun _ _ _ _ _ _ _ us its ws h1 h2 h3 => match us, its, ws, h1, h2, h3 with | [_], [_], [_], _, _, _ => ⟨_, rfl, rfl⟩)
  have b0 := F0.binds (ps := ["cell", "k"]) fun _ _ _ _ _ _ us hl => match us, hl with | [_, _], _ => rfl
  have b1 := F1.binds (ps := ["cell", "k"]) fun _ _ _ _ _ _ us hl => match us, hl with | [_, _], _ => rfl
  have b2 := F2.binds (ps := ["state", "below"]) fun _ _ _ _ _ _ us hl => match us, hl with | [_, _], _ => rfl
  have b3 := F3.binds (ps := ["e"]) fun _ _ _ _ _ _ us hl => match us, hl with | [_], _ => rfl
  have b4 := F4.binds (ps := ["thing"]) fun _ _ _ _ _ _ us hl => match us, hl with | [_], _ => rfl
  have b5 := F5.binds (ps := ["thing"]) fun _ _ _ _ _ _ us hl => match us, hl with | [_], _ => rfl
  have b6 := F6.binds (ps := ["thing"]) fun _ _ _ _ _ _ us hl => match us, hl with | [_], _ => rfl
  have b7 := F7.binds (ps := ["script"]) fun _ _ _ _ _ _ us hl => match us, hl with | [_], _ => rfl
  have T : Txt P w K mg base (fun i => ([f0, f1, f2, f3, f4, f5, f6, fl] : List _).getD i f0) (fun i => ([d0, d1, d2, d3, d4, d5, d6, d7] : List _).getD i d0) (fun i => ([c0, c1, c2, c3, c4, c5, c6, c7, c8, c9, c10, c11, c12, c13, c14, c15, c16] : List Addr).getD i 0) (fun i => ([fi0, fi1, fi2, fi3, fi4, fi5, fi6, fi7, fi8, fi9, fi10, fi11, fi12, fi13, fi14, fi15, fi16] : List _).getD i fi0) (fun i => ([e0, e1, e2, e3, e4, e5, e6, e7, e8, e9, e10, e11, e12, e13, e14, e15, e16] : List _).getD i e0) aS := {
    g_0 := k0.mg X G, kp_0 := k0.kp, b_0 := b0,
    g_1 := k1.mg X G, kp_1 := k1.kp, b_1 := b1,
    g_2 := k2.mg X G, kp_2 := k2.kp, b_2 := b2,
    g_3 := k3.mg X G, kp_3 := k3.kp, b_3 := b3,
    g_4 := k4.mg X G, kp_4 := k4.kp, b_4 := b4,
    g_5 := k5.mg X G, kp_5 := k5.kp, b_5 := b5,
    g_6 := k6.mg X G, kp_6 := k6.kp, b_6 := b6,
    g_7 := k7.mg X G, kp_7 := k7.kp, b_7 := b7,
    n_LookupError := u_LookupError,
    n_OverflowError := u_OverflowError,
    n_ValueError := u_ValueError,
    n_enumerate := u_enumerate,
    n_isinstance := u_isinstance,
    n_range := u_range,
    n_str := u_str,
    n_sum := u_sum,
    gS := mS,
    gc_0 := PySem.W.mg_of X G a0, c_0 := A0,
    gc_1 := PySem.W.mg_of X G a1, c_1 := A1,
    gc_2 := PySem.W.mg_of X G a2, c_2 := A2,
    gc_3 := PySem.W.mg_of X G a3, c_3 := A3,
    gc_4 := PySem.W.mg_of X G a4, c_4 := A4,
    gc_5 := PySem.W.mg_of X G a5, c_5 := A5,
    gc_6 := PySem.W.mg_of X G a6, c_6 := A6,
    gc_7 := PySem.W.mg_of X G a7, c_7 := A7,
    gc_8 := PySem.W.mg_of X G a8, c_8 := A8,
    gc_9 := PySem.W.mg_of X G a9, c_9 := A9,
    gc_10 := PySem.W.mg_of X G a10, c_10 := A10,
    gc_11 := PySem.W.mg_of X G a11, c_11 := A11,
    gc_12 := PySem.W.mg_of X G a12, c_12 := A12,
    gc_13 := PySem.W.mg_of X G a13, c_13 := A13,
    gc_14 := PySem.W.mg_of X G a14, c_14 := A14,
    gc_15 := PySem.W.mg_of X G a15, c_15 := A15,
    gc_16 := PySem.W.mg_of X G a16, c_16 := A16,
    q_BadCode := fun i b h => match i, h with
      | 0, h => ⟨z0.ek g6 g7, by obtain rfl : false = b := Option.some.inj (show some false = some b from h); exact kit_oth z0 z8 oS3 (by decide) (by decide)⟩
      | 1, h => ⟨z1.ek g6 g7, by obtain rfl : false = b := Option.some.inj (show some false = some b from h); exact kit_oth z1 z8 oS3 (by decide) (by decide)⟩
      | 2, h => ⟨z2.ek g6 g7, by obtain rfl : false = b := Option.some.inj (show some false = some b from h); exact kit_oth z2 z8 oS3 (by decide) (by decide)⟩
      | 3, h => ⟨z3.ek g6 g7, by obtain rfl : false = b := Option.some.inj (show some false = some b from h); exact kit_oth z3 z8 oS3 (by decide) (by decide)⟩
      | 4, h => ⟨z4.ek g6 g7, by obtain rfl : false = b := Option.some.inj (show some false = some b from h); exact kit_oth z4 z8 oS3 (by decide) (by decide)⟩
      | 5, h => ⟨z5.ek g6 g7, by obtain rfl : false = b := Option.some.inj (show some false = some b from h); exact kit_oth z5 z8 oS3 (by decide) (by decide)⟩
      | 6, h => ⟨z6.ek g6 g7, by obtain rfl : false = b := Option.some.inj (show some false = some b from h); exact kit_oth z6 z8 oS3 (by decide) (by decide)⟩
      | 7, h => ⟨z7.ek g6 g7, by obtain rfl : false = b := Option.some.inj (show some false = some b from h); exact kit_oth z7 z8 oS3 (by decide) (by decide)⟩
      | 8, h => ⟨z8.ek g6 g7, by obtain rfl : true = b := Option.some.inj (show some true = some b from h); exact kit_own z8⟩
      | 9, h => ⟨z9.ek g6 g7, by obtain rfl : false = b := Option.some.inj (show some false = some b from h); exact kit_oth z9 z8 oS3 (by decide) (by decide)⟩
      | 10, h => ⟨z10.ek g6 g7, by obtain rfl : false = b := Option.some.inj (show some false = some b from h); exact kit_oth z10 z8 oS3 (by decide) (by decide)⟩
      | 11, h => ⟨z11.ek g6 g7, by obtain rfl : false = b := Option.some.inj (show some false = some b from h); exact kit_oth z11 z8 oS3 (by decide) (by decide)⟩
      | 12, h => ⟨z12.ek g6 g7, by obtain rfl : false = b := Option.some.inj (show some false = some b from h); exact kit_oth z12 z8 oS3 (by decide) (by decide)⟩
      | 13, h => ⟨z13.ek g6 g7, by obtain rfl : false = b := Option.some.inj (show some false = some b from h); exact kit_oth z13 z8 oS3 (by decide) (by decide)⟩
      | 14, h => ⟨z14.ek g6 g7, by obtain rfl : false = b := Option.some.inj (show some false = some b from h); exact kit_oth z14 z8 oS3 (by decide) (by decide)⟩
      | 15, h => ⟨z15.ek g6 g7, by obtain rfl : false = b := Option.some.inj (show some false = some b from h); exact kit_oth z15 z8 oS3 (by decide) (by decide)⟩
      | 16, h => ⟨z16.ek g6 g7, by obtain rfl : false = b := Option.some.inj (show some false = some b from h); exact kit_oth z16 z8 oS3 (by decide) (by decide)⟩
      | n + 17, h => absurd h (by unfold q_BadCode; rw [if_neg (by omega)]; simp),
    q_BadDeed := fun i b h => match i, h with
      | 0, h => ⟨z0.ek g6 g7, by obtain rfl : false = b := Option.some.inj (show some false = some b from h); exact kit_oth z0 z13 oS3 (by decide) (by decide)⟩
      | 1, h => ⟨z1.ek g6 g7, by obtain rfl : false = b := Option.some.inj (show some false = some b from h); exact kit_oth z1 z13 oS3 (by decide) (by decide)⟩
      | 2, h => ⟨z2.ek g6 g7, by obtain rfl : false = b := Option.some.inj (show some false = some b from h); exact kit_oth z2 z13 oS3 (by decide) (by decide)⟩
      | 3, h => ⟨z3.ek g6 g7, by obtain rfl : false = b := Option.some.inj (show some false = some b from h); exact kit_oth z3 z13 oS3 (by decide) (by decide)⟩
      | 4, h => ⟨z4.ek g6 g7, by obtain rfl : false = b := Option.some.inj (show some false = some b from h); exact kit_oth z4 z13 oS3 (by decide) (by decide)⟩
      | 5, h => ⟨z5.ek g6 g7, by obtain rfl : false = b := Option.some.inj (show some false = some b from h); exact kit_oth z5 z13 oS3 (by decide) (by decide)⟩
      | 6, h => ⟨z6.ek g6 g7, by obtain rfl : false = b := Option.some.inj (show some false = some b from h); exact kit_oth z6 z13 oS3 (by decide) (by decide)⟩
      | 7, h => ⟨z7.ek g6 g7, by obtain rfl : false = b := Option.some.inj (show some false = some b from h); exact kit_oth z7 z13 oS3 (by decide) (by decide)⟩
      | 8, h => ⟨z8.ek g6 g7, by obtain rfl : false = b := Option.some.inj (show some false = some b from h); exact kit_oth z8 z13 oS3 (by decide) (by decide)⟩
      | 9, h => ⟨z9.ek g6 g7, by obtain rfl : false = b := Option.some.inj (show some false = some b from h); exact kit_oth z9 z13 oS3 (by decide) (by decide)⟩
      | 10, h => ⟨z10.ek g6 g7, by obtain rfl : false = b := Option.some.inj (show some false = some b from h); exact kit_oth z10 z13 oS3 (by decide) (by decide)⟩
      | 11, h => ⟨z11.ek g6 g7, by obtain rfl : false = b := Option.some.inj (show some false = some b from h); exact kit_oth z11 z13 oS3 (by decide) (by decide)⟩
      | 12, h => ⟨z12.ek g6 g7, by obtain rfl : false = b := Option.some.inj (show some false = some b from h); exact kit_oth z12 z13 oS3 (by decide) (by decide)⟩
      | 13, h => ⟨z13.ek g6 g7, by obtain rfl : true = b := Option.some.inj (show some true = some b from h); exact kit_own z13⟩
      | 14, h => ⟨z14.ek g6 g7, by obtain rfl : false = b := Option.some.inj (show some false = some b from h); exact kit_oth z14 z13 oS3 (by decide) (by decide)⟩
      | 15, h => ⟨z15.ek g6 g7, by obtain rfl : false = b := Option.some.inj (show some false = some b from h); exact kit_oth z15 z13 oS3 (by decide) (by decide)⟩
      | 16, h => ⟨z16.ek g6 g7, by obtain rfl : false = b := Option.some.inj (show some false = some b from h); exact kit_oth z16 z13 oS3 (by decide) (by decide)⟩
      | n + 17, h => absurd h (by unfold q_BadDeed; rw [if_neg (by omega)]; simp),
    q_BadHelpers := fun i b h => match i, h with
      | 0, h => ⟨z0.ek g6 g7, by obtain rfl : false = b := Option.some.inj (show some false = some b from h); exact kit_oth z0 z14 oS3 (by decide) (by decide)⟩
      | 1, h => ⟨z1.ek g6 g7, by obtain rfl : false = b := Option.some.inj (show some false = some b from h); exact kit_oth z1 z14 oS3 (by decide) (by decide)⟩
      | 2, h => ⟨z2.ek g6 g7, by obtain rfl : false = b := Option.some.inj (show some false = some b from h); exact kit_oth z2 z14 oS3 (by decide) (by decide)⟩
      | 3, h => ⟨z3.ek g6 g7, by obtain rfl : false = b := Option.some.inj (show some false = some b from h); exact kit_oth z3 z14 oS3 (by decide) (by decide)⟩
      | 4, h => ⟨z4.ek g6 g7, by obtain rfl : false = b := Option.some.inj (show some false = some b from h); exact kit_oth z4 z14 oS3 (by decide) (by decide)⟩
      | 5, h => ⟨z5.ek g6 g7, by obtain rfl : false = b := Option.some.inj (show some false = some b from h); exact kit_oth z5 z14 oS3 (by decide) (by decide)⟩
      | 6, h => ⟨z6.ek g6 g7, by obtain rfl : false = b := Option.some.inj (show some false = some b from h); exact kit_oth z6 z14 oS3 (by decide) (by decide)⟩
      | 7, h => ⟨z7.ek g6 g7, by obtain rfl : false = b := Option.some.inj (show some false = some b from h); exact kit_oth z7 z14 oS3 (by decide) (by decide)⟩
      | 8, h => ⟨z8.ek g6 g7, by obtain rfl : false = b := Option.some.inj (show some false = some b from h); exact kit_oth z8 z14 oS3 (by decide) (by decide)⟩
      | 9, h => ⟨z9.ek g6 g7, by obtain rfl : false = b := Option.some.inj (show some false = some b from h); exact kit_oth z9 z14 oS3 (by decide) (by decide)⟩
      | 10, h => ⟨z10.ek g6 g7, by obtain rfl : false = b := Option.some.inj (show some false = some b from h); exact kit_oth z10 z14 oS3 (by decide) (by decide)⟩
      | 11, h => ⟨z11.ek g6 g7, by obtain rfl : false = b := Option.some.inj (show some false = some b from h); exact kit_oth z11 z14 oS3 (by decide) (by decide)⟩
      | 12, h => ⟨z12.ek g6 g7, by obtain rfl : false = b := Option.some.inj (show some false = some b from h); exact kit_oth z12 z14 oS3 (by decide) (by decide)⟩
      | 13, h => ⟨z13.ek g6 g7, by obtain rfl : false = b := Option.some.inj (show some false = some b from h); exact kit_oth z13 z14 oS3 (by decide) (by decide)⟩
      | 14, h => ⟨z14.ek g6 g7, by obtain rfl : true = b := Option.some.inj (show some true = some b from h); exact kit_own z14⟩
      | 15, h => ⟨z15.ek g6 g7, by obtain rfl : false = b := Option.some.inj (show some false = some b from h); exact kit_oth z15 z14 oS3 (by decide) (by decide)⟩
      | 16, h => ⟨z16.ek g6 g7, by obtain rfl : false = b := Option.some.inj (show some false = some b from h); exact kit_oth z16 z14 oS3 (by decide) (by decide)⟩
      | n + 17, h => absurd h (by unfold q_BadHelpers; rw [if_neg (by omega)]; simp),
    q_BadInputs := fun i b h => match i, h with
      | 0, h => ⟨z0.ek g6 g7, by obtain rfl : false = b := Option.some.inj (show some false = some b from h); exact kit_oth z0 z3 oS3 (by decide) (by decide)⟩
      | 1, h => ⟨z1.ek g6 g7, by obtain rfl : false = b := Option.some.inj (show some false = some b from h); exact kit_oth z1 z3 oS3 (by decide) (by decide)⟩
      | 2, h => ⟨z2.ek g6 g7, by obtain rfl : false = b := Option.some.inj (show some false = some b from h); exact kit_oth z2 z3 oS3 (by decide) (by decide)⟩
      | 3, h => ⟨z3.ek g6 g7, by obtain rfl : true = b := Option.some.inj (show some true = some b from h); exact kit_own z3⟩
      | 4, h => ⟨z4.ek g6 g7, by obtain rfl : false = b := Option.some.inj (show some false = some b from h); exact kit_oth z4 z3 oS3 (by decide) (by decide)⟩
      | 5, h => ⟨z5.ek g6 g7, by obtain rfl : false = b := Option.some.inj (show some false = some b from h); exact kit_oth z5 z3 oS3 (by decide) (by decide)⟩
      | 6, h => ⟨z6.ek g6 g7, by obtain rfl : false = b := Option.some.inj (show some false = some b from h); exact kit_oth z6 z3 oS3 (by decide) (by decide)⟩
      | 7, h => ⟨z7.ek g6 g7, by obtain rfl : false = b := Option.some.inj (show some false = some b from h); exact kit_oth z7 z3 oS3 (by decide) (by decide)⟩
      | 8, h => ⟨z8.ek g6 g7, by obtain rfl : false = b := Option.some.inj (show some false = some b from h); exact kit_oth z8 z3 oS3 (by decide) (by decide)⟩
      | 9, h => ⟨z9.ek g6 g7, by obtain rfl : false = b := Option.some.inj (show some false = some b from h); exact kit_oth z9 z3 oS3 (by decide) (by decide)⟩
      | 10, h => ⟨z10.ek g6 g7, by obtain rfl : false = b := Option.some.inj (show some false = some b from h); exact kit_oth z10 z3 oS3 (by decide) (by decide)⟩
      | 11, h => ⟨z11.ek g6 g7, by obtain rfl : false = b := Option.some.inj (show some false = some b from h); exact kit_oth z11 z3 oS3 (by decide) (by decide)⟩
      | 12, h => ⟨z12.ek g6 g7, by obtain rfl : false = b := Option.some.inj (show some false = some b from h); exact kit_oth z12 z3 oS3 (by decide) (by decide)⟩
      | 13, h => ⟨z13.ek g6 g7, by obtain rfl : false = b := Option.some.inj (show some false = some b from h); exact kit_oth z13 z3 oS3 (by decide) (by decide)⟩
      | 14, h => ⟨z14.ek g6 g7, by obtain rfl : false = b := Option.some.inj (show some false = some b from h); exact kit_oth z14 z3 oS3 (by decide) (by decide)⟩
      | 15, h => ⟨z15.ek g6 g7, by obtain rfl : false = b := Option.some.inj (show some false = some b from h); exact kit_oth z15 z3 oS3 (by decide) (by decide)⟩
      | 16, h => ⟨z16.ek g6 g7, by obtain rfl : false = b := Option.some.inj (show some false = some b from h); exact kit_oth z16 z3 oS3 (by decide) (by decide)⟩
      | n + 17, h => absurd h (by unfold q_BadInputs; rw [if_neg (by omega)]; simp),
    q_BadLetter := fun i b h => match i, h with
      | 0, h => ⟨z0.ek g6 g7, by obtain rfl : false = b := Option.some.inj (show some false = some b from h); exact kit_oth z0 z11 oS3 (by decide) (by decide)⟩
      | 1, h => ⟨z1.ek g6 g7, by obtain rfl : false = b := Option.some.inj (show some false = some b from h); exact kit_oth z1 z11 oS3 (by decide) (by decide)⟩
      | 2, h => ⟨z2.ek g6 g7, by obtain rfl : false = b := Option.some.inj (show some false = some b from h); exact kit_oth z2 z11 oS3 (by decide) (by decide)⟩
      | 3, h => ⟨z3.ek g6 g7, by obtain rfl : false = b := Option.some.inj (show some false = some b from h); exact kit_oth z3 z11 oS3 (by decide) (by decide)⟩
      | 4, h => ⟨z4.ek g6 g7, by obtain rfl : false = b := Option.some.inj (show some false = some b from h); exact kit_oth z4 z11 oS3 (by decide) (by decide)⟩
      | 5, h => ⟨z5.ek g6 g7, by obtain rfl : false = b := Option.some.inj (show some false = some b from h); exact kit_oth z5 z11 oS3 (by decide) (by decide)⟩
      | 6, h => ⟨z6.ek g6 g7, by obtain rfl : false = b := Option.some.inj (show some false = some b from h); exact kit_oth z6 z11 oS3 (by decide) (by decide)⟩
      | 7, h => ⟨z7.ek g6 g7, by obtain rfl : false = b := Option.some.inj (show some false = some b from h); exact kit_oth z7 z11 oS3 (by decide) (by decide)⟩
      | 8, h => ⟨z8.ek g6 g7, by obtain rfl : false = b := Option.some.inj (show some false = some b from h); exact kit_oth z8 z11 oS3 (by decide) (by decide)⟩
      | 9, h => ⟨z9.ek g6 g7, by obtain rfl : false = b := Option.some.inj (show some false = some b from h); exact kit_oth z9 z11 oS3 (by decide) (by decide)⟩
      | 10, h => ⟨z10.ek g6 g7, by obtain rfl : false = b := Option.some.inj (show some false = some b from h); exact kit_oth z10 z11 oS3 (by decide) (by decide)⟩
      | 11, h => ⟨z11.ek g6 g7, by obtain rfl : true = b := Option.some.inj (show some true = some b from h); exact kit_own z11⟩
      | 12, h => ⟨z12.ek g6 g7, by obtain rfl : false = b := Option.some.inj (show some false = some b from h); exact kit_oth z12 z11 oS3 (by decide) (by decide)⟩
      | 13, h => ⟨z13.ek g6 g7, by obtain rfl : false = b := Option.some.inj (show some false = some b from h); exact kit_oth z13 z11 oS3 (by decide) (by decide)⟩
      | 14, h => ⟨z14.ek g6 g7, by obtain rfl : false = b := Option.some.inj (show some false = some b from h); exact kit_oth z14 z11 oS3 (by decide) (by decide)⟩
      | 15, h => ⟨z15.ek g6 g7, by obtain rfl : false = b := Option.some.inj (show some false = some b from h); exact kit_oth z15 z11 oS3 (by decide) (by decide)⟩
      | 16, h => ⟨z16.ek g6 g7, by obtain rfl : false = b := Option.some.inj (show some false = some b from h); exact kit_oth z16 z11 oS3 (by decide) (by decide)⟩
      | n + 17, h => absurd h (by unfold q_BadLetter; rw [if_neg (by omega)]; simp),
    q_BadNumber := fun i b h => match i, h with
      | 0, h => ⟨z0.ek g6 g7, by obtain rfl : false = b := Option.some.inj (show some false = some b from h); exact kit_oth z0 z10 oS3 (by decide) (by decide)⟩
      | 1, h => ⟨z1.ek g6 g7, by obtain rfl : false = b := Option.some.inj (show some false = some b from h); exact kit_oth z1 z10 oS3 (by decide) (by decide)⟩
      | 2, h => ⟨z2.ek g6 g7, by obtain rfl : false = b := Option.some.inj (show some false = some b from h); exact kit_oth z2 z10 oS3 (by decide) (by decide)⟩
      | 3, h => ⟨z3.ek g6 g7, by obtain rfl : false = b := Option.some.inj (show some false = some b from h); exact kit_oth z3 z10 oS3 (by decide) (by decide)⟩
      | 4, h => ⟨z4.ek g6 g7, by obtain rfl : false = b := Option.some.inj (show some false = some b from h); exact kit_oth z4 z10 oS3 (by decide) (by decide)⟩
      | 5, h => ⟨z5.ek g6 g7, by obtain rfl : false = b := Option.some.inj (show some false = some b from h); exact kit_oth z5 z10 oS3 (by decide) (by decide)⟩
      | 6, h => ⟨z6.ek g6 g7, by obtain rfl : false = b := Option.some.inj (show some false = some b from h); exact kit_oth z6 z10 oS3 (by decide) (by decide)⟩
      | 7, h => ⟨z7.ek g6 g7, by obtain rfl : false = b := Option.some.inj (show some false = some b from h); exact kit_oth z7 z10 oS3 (by decide) (by decide)⟩
      | 8, h => ⟨z8.ek g6 g7, by obtain rfl : false = b := Option.some.inj (show some false = some b from h); exact kit_oth z8 z10 oS3 (by decide) (by decide)⟩
      | 9, h => ⟨z9.ek g6 g7, by obtain rfl : false = b := Option.some.inj (show some false = some b from h); exact kit_oth z9 z10 oS3 (by decide) (by decide)⟩
      | 10, h => ⟨z10.ek g6 g7, by obtain rfl : true = b := Option.some.inj (show some true = some b from h); exact kit_own z10⟩
      | 11, h => ⟨z11.ek g6 g7, by obtain rfl : false = b := Option.some.inj (show some false = some b from h); exact kit_oth z11 z10 oS3 (by decide) (by decide)⟩
      | 12, h => ⟨z12.ek g6 g7, by obtain rfl : false = b := Option.some.inj (show some false = some b from h); exact kit_oth z12 z10 oS3 (by decide) (by decide)⟩
      | 13, h => ⟨z13.ek g6 g7, by obtain rfl : false = b := Option.some.inj (show some false = some b from h); exact kit_oth z13 z10 oS3 (by decide) (by decide)⟩
      | 14, h => ⟨z14.ek g6 g7, by obtain rfl : false = b := Option.some.inj (show some false = some b from h); exact kit_oth z14 z10 oS3 (by decide) (by decide)⟩
      | 15, h => ⟨z15.ek g6 g7, by obtain rfl : false = b := Option.some.inj (show some false = some b from h); exact kit_oth z15 z10 oS3 (by decide) (by decide)⟩
      | 16, h => ⟨z16.ek g6 g7, by obtain rfl : false = b := Option.some.inj (show some false = some b from h); exact kit_oth z16 z10 oS3 (by decide) (by decide)⟩
      | n + 17, h => absurd h (by unfold q_BadNumber; rw [if_neg (by omega)]; simp),
    q_BadPaper := fun i b h => match i, h with
      | 0, h => ⟨z0.ek g6 g7, by obtain rfl : false = b := Option.some.inj (show some false = some b from h); exact kit_oth z0 z12 oS3 (by decide) (by decide)⟩
      | 1, h => ⟨z1.ek g6 g7, by obtain rfl : false = b := Option.some.inj (show some false = some b from h); exact kit_oth z1 z12 oS3 (by decide) (by decide)⟩
      | 2, h => ⟨z2.ek g6 g7, by obtain rfl : false = b := Option.some.inj (show some false = some b from h); exact kit_oth z2 z12 oS3 (by decide) (by decide)⟩
      | 3, h => ⟨z3.ek g6 g7, by obtain rfl : false = b := Option.some.inj (show some false = some b from h); exact kit_oth z3 z12 oS3 (by decide) (by decide)⟩
      | 4, h => ⟨z4.ek g6 g7, by obtain rfl : false = b := Option.some.inj (show some false = some b from h); exact kit_oth z4 z12 oS3 (by decide) (by decide)⟩
      | 5, h => ⟨z5.ek g6 g7, by obtain rfl : false = b := Option.some.inj (show some false = some b from h); exact kit_oth z5 z12 oS3 (by decide) (by decide)⟩
      | 6, h => ⟨z6.ek g6 g7, by obtain rfl : false = b := Option.some.inj (show some false = some b from h); exact kit_oth z6 z12 oS3 (by decide) (by decide)⟩
      | 7, h => ⟨z7.ek g6 g7, by obtain rfl : false = b := Option.some.inj (show some false = some b from h); exact kit_oth z7 z12 oS3 (by decide) (by decide)⟩
      | 8, h => ⟨z8.ek g6 g7, by obtain rfl : false = b := Option.some.inj (show some false = some b from h); exact kit_oth z8 z12 oS3 (by decide) (by decide)⟩
      | 9, h => ⟨z9.ek g6 g7, by obtain rfl : false = b := Option.some.inj (show some false = some b from h); exact kit_oth z9 z12 oS3 (by decide) (by decide)⟩
      | 10, h => ⟨z10.ek g6 g7, by obtain rfl : false = b := Option.some.inj (show some false = some b from h); exact kit_oth z10 z12 oS3 (by decide) (by decide)⟩
      | 11, h => ⟨z11.ek g6 g7, by obtain rfl : false = b := Option.some.inj (show some false = some b from h); exact kit_oth z11 z12 oS3 (by decide) (by decide)⟩
      | 12, h => ⟨z12.ek g6 g7, by obtain rfl : true = b := Option.some.inj (show some true = some b from h); exact kit_own z12⟩
      | 13, h => ⟨z13.ek g6 g7, by obtain rfl : false = b := Option.some.inj (show some false = some b from h); exact kit_oth z13 z12 oS3 (by decide) (by decide)⟩
      | 14, h => ⟨z14.ek g6 g7, by obtain rfl : false = b := Option.some.inj (show some false = some b from h); exact kit_oth z14 z12 oS3 (by decide) (by decide)⟩
      | 15, h => ⟨z15.ek g6 g7, by obtain rfl : false = b := Option.some.inj (show some false = some b from h); exact kit_oth z15 z12 oS3 (by decide) (by decide)⟩
      | 16, h => ⟨z16.ek g6 g7, by obtain rfl : false = b := Option.some.inj (show some false = some b from h); exact kit_oth z16 z12 oS3 (by decide) (by decide)⟩
      | n + 17, h => absurd h (by unfold q_BadPaper; rw [if_neg (by omega)]; simp),
    q_BadProgram := fun i b h => match i, h with
      | 0, h => ⟨z0.ek g6 g7, by obtain rfl : false = b := Option.some.inj (show some false = some b from h); exact kit_oth z0 z2 oS3 (by decide) (by decide)⟩
      | 1, h => ⟨z1.ek g6 g7, by obtain rfl : false = b := Option.some.inj (show some false = some b from h); exact kit_oth z1 z2 oS3 (by decide) (by decide)⟩
      | 2, h => ⟨z2.ek g6 g7, by obtain rfl : true = b := Option.some.inj (show some true = some b from h); exact kit_own z2⟩
      | 3, h => ⟨z3.ek g6 g7, by obtain rfl : false = b := Option.some.inj (show some false = some b from h); exact kit_oth z3 z2 oS3 (by decide) (by decide)⟩
      | 4, h => ⟨z4.ek g6 g7, by obtain rfl : false = b := Option.some.inj (show some false = some b from h); exact kit_oth z4 z2 oS3 (by decide) (by decide)⟩
      | 5, h => ⟨z5.ek g6 g7, by obtain rfl : false = b := Option.some.inj (show some false = some b from h); exact kit_oth z5 z2 oS3 (by decide) (by decide)⟩
      | 6, h => ⟨z6.ek g6 g7, by obtain rfl : false = b := Option.some.inj (show some false = some b from h); exact kit_oth z6 z2 oS3 (by decide) (by decide)⟩
      | 7, h => ⟨z7.ek g6 g7, by obtain rfl : false = b := Option.some.inj (show some false = some b from h); exact kit_oth z7 z2 oS3 (by decide) (by decide)⟩
      | 8, h => ⟨z8.ek g6 g7, by obtain rfl : false = b := Option.some.inj (show some false = some b from h); exact kit_oth z8 z2 oS3 (by decide) (by decide)⟩
      | 9, h => ⟨z9.ek g6 g7, by obtain rfl : false = b := Option.some.inj (show some false = some b from h); exact kit_oth z9 z2 oS3 (by decide) (by decide)⟩
      | 10, h => ⟨z10.ek g6 g7, by obtain rfl : false = b := Option.some.inj (show some false = some b from h); exact kit_oth z10 z2 oS3 (by decide) (by decide)⟩
      | 11, h => ⟨z11.ek g6 g7, by obtain rfl : false = b := Option.some.inj (show some false = some b from h); exact kit_oth z11 z2 oS3 (by decide) (by decide)⟩
      | 12, h => ⟨z12.ek g6 g7, by obtain rfl : false = b := Option.some.inj (show some false = some b from h); exact kit_oth z12 z2 oS3 (by decide) (by decide)⟩
      | 13, h => ⟨z13.ek g6 g7, by obtain rfl : false = b := Option.some.inj (show some false = some b from h); exact kit_oth z13 z2 oS3 (by decide) (by decide)⟩
      | 14, h => ⟨z14.ek g6 g7, by obtain rfl : false = b := Option.some.inj (show some false = some b from h); exact kit_oth z14 z2 oS3 (by decide) (by decide)⟩
      | 15, h => ⟨z15.ek g6 g7, by obtain rfl : false = b := Option.some.inj (show some false = some b from h); exact kit_oth z15 z2 oS3 (by decide) (by decide)⟩
      | 16, h => ⟨z16.ek g6 g7, by obtain rfl : false = b := Option.some.inj (show some false = some b from h); exact kit_oth z16 z2 oS3 (by decide) (by decide)⟩
      | n + 17, h => absurd h (by unfold q_BadProgram; rw [if_neg (by omega)]; simp),
    q_BadTable := fun i b h => match i, h with
      | 0, h => ⟨z0.ek g6 g7, by obtain rfl : false = b := Option.some.inj (show some false = some b from h); exact kit_oth z0 z6 oS3 (by decide) (by decide)⟩
      | 1, h => ⟨z1.ek g6 g7, by obtain rfl : false = b := Option.some.inj (show some false = some b from h); exact kit_oth z1 z6 oS3 (by decide) (by decide)⟩
      | 2, h => ⟨z2.ek g6 g7, by obtain rfl : false = b := Option.some.inj (show some false = some b from h); exact kit_oth z2 z6 oS3 (by decide) (by decide)⟩
      | 3, h => ⟨z3.ek g6 g7, by obtain rfl : false = b := Option.some.inj (show some false = some b from h); exact kit_oth z3 z6 oS3 (by decide) (by decide)⟩
      | 4, h => ⟨z4.ek g6 g7, by obtain rfl : false = b := Option.some.inj (show some false = some b from h); exact kit_oth z4 z6 oS3 (by decide) (by decide)⟩
      | 5, h => ⟨z5.ek g6 g7, by obtain rfl : false = b := Option.some.inj (show some false = some b from h); exact kit_oth z5 z6 oS3 (by decide) (by decide)⟩
      | 6, h => ⟨z6.ek g6 g7, by obtain rfl : true = b := Option.some.inj (show some true = some b from h); exact kit_own z6⟩
      | 7, h => ⟨z7.ek g6 g7, by obtain rfl : false = b := Option.some.inj (show some false = some b from h); exact kit_oth z7 z6 oS3 (by decide) (by decide)⟩
      | 8, h => ⟨z8.ek g6 g7, by obtain rfl : false = b := Option.some.inj (show some false = some b from h); exact kit_oth z8 z6 oS3 (by decide) (by decide)⟩
      | 9, h => ⟨z9.ek g6 g7, by obtain rfl : false = b := Option.some.inj (show some false = some b from h); exact kit_oth z9 z6 oS3 (by decide) (by decide)⟩
      | 10, h => ⟨z10.ek g6 g7, by obtain rfl : false = b := Option.some.inj (show some false = some b from h); exact kit_oth z10 z6 oS3 (by decide) (by decide)⟩
      | 11, h => ⟨z11.ek g6 g7, by obtain rfl : false = b := Option.some.inj (show some false = some b from h); exact kit_oth z11 z6 oS3 (by decide) (by decide)⟩
      | 12, h => ⟨z12.ek g6 g7, by obtain rfl : false = b := Option.some.inj (show some false = some b from h); exact kit_oth z12 z6 oS3 (by decide) (by decide)⟩
      | 13, h => ⟨z13.ek g6 g7, by obtain rfl : false = b := Option.some.inj (show some false = some b from h); exact kit_oth z13 z6 oS3 (by decide) (by decide)⟩
      | 14, h => ⟨z14.ek g6 g7, by obtain rfl : false = b := Option.some.inj (show some false = some b from h); exact kit_oth z14 z6 oS3 (by decide) (by decide)⟩
      | 15, h => ⟨z15.ek g6 g7, by obtain rfl : false = b := Option.some.inj (show some false = some b from h); exact kit_oth z15 z6 oS3 (by decide) (by decide)⟩
      | 16, h => ⟨z16.ek g6 g7, by obtain rfl : false = b := Option.some.inj (show some false = some b from h); exact kit_oth z16 z6 oS3 (by decide) (by decide)⟩
      | n + 17, h => absurd h (by unfold q_BadTable; rw [if_neg (by omega)]; simp),
    q_BadTerm := fun i b h => match i, h with
      | 0, h => ⟨z0.ek g6 g7, by obtain rfl : false = b := Option.some.inj (show some false = some b from h); exact kit_oth z0 z1 oS3 (by decide) (by decide)⟩
      | 1, h => ⟨z1.ek g6 g7, by obtain rfl : true = b := Option.some.inj (show some true = some b from h); exact kit_own z1⟩
      | 2, h => ⟨z2.ek g6 g7, by obtain rfl : false = b := Option.some.inj (show some false = some b from h); exact kit_oth z2 z1 oS3 (by decide) (by decide)⟩
      | 3, h => ⟨z3.ek g6 g7, by obtain rfl : false = b := Option.some.inj (show some false = some b from h); exact kit_oth z3 z1 oS3 (by decide) (by decide)⟩
      | 4, h => ⟨z4.ek g6 g7, by obtain rfl : false = b := Option.some.inj (show some false = some b from h); exact kit_oth z4 z1 oS3 (by decide) (by decide)⟩
      | 5, h => ⟨z5.ek g6 g7, by obtain rfl : false = b := Option.some.inj (show some false = some b from h); exact kit_oth z5 z1 oS3 (by decide) (by decide)⟩
      | 6, h => ⟨z6.ek g6 g7, by obtain rfl : false = b := Option.some.inj (show some false = some b from h); exact kit_oth z6 z1 oS3 (by decide) (by decide)⟩
      | 7, h => ⟨z7.ek g6 g7, by obtain rfl : false = b := Option.some.inj (show some false = some b from h); exact kit_oth z7 z1 oS3 (by decide) (by decide)⟩
      | 8, h => ⟨z8.ek g6 g7, by obtain rfl : false = b := Option.some.inj (show some false = some b from h); exact kit_oth z8 z1 oS3 (by decide) (by decide)⟩
      | 9, h => ⟨z9.ek g6 g7, by obtain rfl : false = b := Option.some.inj (show some false = some b from h); exact kit_oth z9 z1 oS3 (by decide) (by decide)⟩
      | 10, h => ⟨z10.ek g6 g7, by obtain rfl : false = b := Option.some.inj (show some false = some b from h); exact kit_oth z10 z1 oS3 (by decide) (by decide)⟩
      | 11, h => ⟨z11.ek g6 g7, by obtain rfl : false = b := Option.some.inj (show some false = some b from h); exact kit_oth z11 z1 oS3 (by decide) (by decide)⟩
      | 12, h => ⟨z12.ek g6 g7, by obtain rfl : false = b := Option.some.inj (show some false = some b from h); exact kit_oth z12 z1 oS3 (by decide) (by decide)⟩
      | 13, h => ⟨z13.ek g6 g7, by obtain rfl : false = b := Option.some.inj (show some false = some b from h); exact kit_oth z13 z1 oS3 (by decide) (by decide)⟩
      | 14, h => ⟨z14.ek g6 g7, by obtain rfl : false = b := Option.some.inj (show some false = some b from h); exact kit_oth z14 z1 oS3 (by decide) (by decide)⟩
      | 15, h => ⟨z15.ek g6 g7, by obtain rfl : false = b := Option.some.inj (show some false = some b from h); exact kit_oth z15 z1 oS3 (by decide) (by decide)⟩
      | 16, h => ⟨z16.ek g6 g7, by obtain rfl : false = b := Option.some.inj (show some false = some b from h); exact kit_oth z16 z1 oS3 (by decide) (by decide)⟩
      | n + 17, h => absurd h (by unfold q_BadTerm; rw [if_neg (by omega)]; simp),
    q_BadTests := fun i b h => match i, h with
      | 0, h => ⟨z0.ek g6 g7, by obtain rfl : false = b := Option.some.inj (show some false = some b from h); exact kit_oth z0 z7 oS3 (by decide) (by decide)⟩
      | 1, h => ⟨z1.ek g6 g7, by obtain rfl : false = b := Option.some.inj (show some false = some b from h); exact kit_oth z1 z7 oS3 (by decide) (by decide)⟩
      | 2, h => ⟨z2.ek g6 g7, by obtain rfl : false = b := Option.some.inj (show some false = some b from h); exact kit_oth z2 z7 oS3 (by decide) (by decide)⟩
      | 3, h => ⟨z3.ek g6 g7, by obtain rfl : false = b := Option.some.inj (show some false = some b from h); exact kit_oth z3 z7 oS3 (by decide) (by decide)⟩
      | 4, h => ⟨z4.ek g6 g7, by obtain rfl : false = b := Option.some.inj (show some false = some b from h); exact kit_oth z4 z7 oS3 (by decide) (by decide)⟩
      | 5, h => ⟨z5.ek g6 g7, by obtain rfl : false = b := Option.some.inj (show some false = some b from h); exact kit_oth z5 z7 oS3 (by decide) (by decide)⟩
      | 6, h => ⟨z6.ek g6 g7, by obtain rfl : false = b := Option.some.inj (show some false = some b from h); exact kit_oth z6 z7 oS3 (by decide) (by decide)⟩
      | 7, h => ⟨z7.ek g6 g7, by obtain rfl : true = b := Option.some.inj (show some true = some b from h); exact kit_own z7⟩
      | 8, h => ⟨z8.ek g6 g7, by obtain rfl : false = b := Option.some.inj (show some false = some b from h); exact kit_oth z8 z7 oS3 (by decide) (by decide)⟩
      | 9, h => ⟨z9.ek g6 g7, by obtain rfl : false = b := Option.some.inj (show some false = some b from h); exact kit_oth z9 z7 oS3 (by decide) (by decide)⟩
      | 10, h => ⟨z10.ek g6 g7, by obtain rfl : false = b := Option.some.inj (show some false = some b from h); exact kit_oth z10 z7 oS3 (by decide) (by decide)⟩
      | 11, h => ⟨z11.ek g6 g7, by obtain rfl : false = b := Option.some.inj (show some false = some b from h); exact kit_oth z11 z7 oS3 (by decide) (by decide)⟩
      | 12, h => ⟨z12.ek g6 g7, by obtain rfl : false = b := Option.some.inj (show some false = some b from h); exact kit_oth z12 z7 oS3 (by decide) (by decide)⟩
      | 13, h => ⟨z13.ek g6 g7, by obtain rfl : false = b := Option.some.inj (show some false = some b from h); exact kit_oth z13 z7 oS3 (by decide) (by decide)⟩
      | 14, h => ⟨z14.ek g6 g7, by obtain rfl : false = b := Option.some.inj (show some false = some b from h); exact kit_oth z14 z7 oS3 (by decide) (by decide)⟩
      | 15, h => ⟨z15.ek g6 g7, by obtain rfl : false = b := Option.some.inj (show some false = some b from h); exact kit_oth z15 z7 oS3 (by decide) (by decide)⟩
      | 16, h => ⟨z16.ek g6 g7, by obtain rfl : false = b := Option.some.inj (show some false = some b from h); exact kit_oth z16 z7 oS3 (by decide) (by decide)⟩
      | n + 17, h => absurd h (by unfold q_BadTests; rw [if_neg (by omega)]; simp),
    q_BadText := fun i b h => match i, h with
      | 0, h => ⟨z0.ek g6 g7, by obtain rfl : false = b := Option.some.inj (show some false = some b from h); exact kit_oth z0 z9 oS3 (by decide) (by decide)⟩
      | 1, h => ⟨z1.ek g6 g7, by obtain rfl : false = b := Option.some.inj (show some false = some b from h); exact kit_oth z1 z9 oS3 (by decide) (by decide)⟩
      | 2, h => ⟨z2.ek g6 g7, by obtain rfl : false = b := Option.some.inj (show some false = some b from h); exact kit_oth z2 z9 oS3 (by decide) (by decide)⟩
      | 3, h => ⟨z3.ek g6 g7, by obtain rfl : false = b := Option.some.inj (show some false = some b from h); exact kit_oth z3 z9 oS3 (by decide) (by decide)⟩
      | 4, h => ⟨z4.ek g6 g7, by obtain rfl : false = b := Option.some.inj (show some false = some b from h); exact kit_oth z4 z9 oS3 (by decide) (by decide)⟩
      | 5, h => ⟨z5.ek g6 g7, by obtain rfl : false = b := Option.some.inj (show some false = some b from h); exact kit_oth z5 z9 oS3 (by decide) (by decide)⟩
      | 6, h => ⟨z6.ek g6 g7, by obtain rfl : false = b := Option.some.inj (show some false = some b from h); exact kit_oth z6 z9 oS3 (by decide) (by decide)⟩
      | 7, h => ⟨z7.ek g6 g7, by obtain rfl : false = b := Option.some.inj (show some false = some b from h); exact kit_oth z7 z9 oS3 (by decide) (by decide)⟩
      | 8, h => ⟨z8.ek g6 g7, by obtain rfl : false = b := Option.some.inj (show some false = some b from h); exact kit_oth z8 z9 oS3 (by decide) (by decide)⟩
      | 9, h => ⟨z9.ek g6 g7, by obtain rfl : true = b := Option.some.inj (show some true = some b from h); exact kit_own z9⟩
      | 10, h => ⟨z10.ek g6 g7, by obtain rfl : false = b := Option.some.inj (show some false = some b from h); exact kit_oth z10 z9 oS3 (by decide) (by decide)⟩
      | 11, h => ⟨z11.ek g6 g7, by obtain rfl : false = b := Option.some.inj (show some false = some b from h); exact kit_oth z11 z9 oS3 (by decide) (by decide)⟩
      | 12, h => ⟨z12.ek g6 g7, by obtain rfl : false = b := Option.some.inj (show some false = some b from h); exact kit_oth z12 z9 oS3 (by decide) (by decide)⟩
      | 13, h => ⟨z13.ek g6 g7, by obtain rfl : false = b := Option.some.inj (show some false = some b from h); exact kit_oth z13 z9 oS3 (by decide) (by decide)⟩
      | 14, h => ⟨z14.ek g6 g7, by obtain rfl : false = b := Option.some.inj (show some false = some b from h); exact kit_oth z14 z9 oS3 (by decide) (by decide)⟩
      | 15, h => ⟨z15.ek g6 g7, by obtain rfl : false = b := Option.some.inj (show some false = some b from h); exact kit_oth z15 z9 oS3 (by decide) (by decide)⟩
      | 16, h => ⟨z16.ek g6 g7, by obtain rfl : false = b := Option.some.inj (show some false = some b from h); exact kit_oth z16 z9 oS3 (by decide) (by decide)⟩
      | n + 17, h => absurd h (by unfold q_BadText; rw [if_neg (by omega)]; simp),
    q_BadType := fun i b h => match i, h with
      | 0, h => ⟨z0.ek g6 g7, by obtain rfl : true = b := Option.some.inj (show some true = some b from h); exact kit_own z0⟩
      | 1, h => ⟨z1.ek g6 g7, by obtain rfl : false = b := Option.some.inj (show some false = some b from h); exact kit_oth z1 z0 oS3 (by decide) (by decide)⟩
      | 2, h => ⟨z2.ek g6 g7, by obtain rfl : false = b := Option.some.inj (show some false = some b from h); exact kit_oth z2 z0 oS3 (by decide) (by decide)⟩
      | 3, h => ⟨z3.ek g6 g7, by obtain rfl : false = b := Option.some.inj (show some false = some b from h); exact kit_oth z3 z0 oS3 (by decide) (by decide)⟩
      | 4, h => ⟨z4.ek g6 g7, by obtain rfl : false = b := Option.some.inj (show some false = some b from h); exact kit_oth z4 z0 oS3 (by decide) (by decide)⟩
      | 5, h => ⟨z5.ek g6 g7, by obtain rfl : false = b := Option.some.inj (show some false = some b from h); exact kit_oth z5 z0 oS3 (by decide) (by decide)⟩
      | 6, h => ⟨z6.ek g6 g7, by obtain rfl : false = b := Option.some.inj (show some false = some b from h); exact kit_oth z6 z0 oS3 (by decide) (by decide)⟩
      | 7, h => ⟨z7.ek g6 g7, by obtain rfl : false = b := Option.some.inj (show some false = some b from h); exact kit_oth z7 z0 oS3 (by decide) (by decide)⟩
      | 8, h => ⟨z8.ek g6 g7, by obtain rfl : false = b := Option.some.inj (show some false = some b from h); exact kit_oth z8 z0 oS3 (by decide) (by decide)⟩
      | 9, h => ⟨z9.ek g6 g7, by obtain rfl : false = b := Option.some.inj (show some false = some b from h); exact kit_oth z9 z0 oS3 (by decide) (by decide)⟩
      | 10, h => ⟨z10.ek g6 g7, by obtain rfl : false = b := Option.some.inj (show some false = some b from h); exact kit_oth z10 z0 oS3 (by decide) (by decide)⟩
      | 11, h => ⟨z11.ek g6 g7, by obtain rfl : false = b := Option.some.inj (show some false = some b from h); exact kit_oth z11 z0 oS3 (by decide) (by decide)⟩
      | 12, h => ⟨z12.ek g6 g7, by obtain rfl : false = b := Option.some.inj (show some false = some b from h); exact kit_oth z12 z0 oS3 (by decide) (by decide)⟩
      | 13, h => ⟨z13.ek g6 g7, by obtain rfl : false = b := Option.some.inj (show some false = some b from h); exact kit_oth z13 z0 oS3 (by decide) (by decide)⟩
      | 14, h => ⟨z14.ek g6 g7, by obtain rfl : false = b := Option.some.inj (show some false = some b from h); exact kit_oth z14 z0 oS3 (by decide) (by decide)⟩
      | 15, h => ⟨z15.ek g6 g7, by obtain rfl : false = b := Option.some.inj (show some false = some b from h); exact kit_oth z15 z0 oS3 (by decide) (by decide)⟩
      | 16, h => ⟨z16.ek g6 g7, by obtain rfl : false = b := Option.some.inj (show some false = some b from h); exact kit_oth z16 z0 oS3 (by decide) (by decide)⟩
      | n + 17, h => absurd h (by unfold q_BadType; rw [if_neg (by omega)]; simp),
    q_BadValue := fun i b h => match i, h with
      | 0, h => ⟨z0.ek g6 g7, by obtain rfl : false = b := Option.some.inj (show some false = some b from h); exact kit_oth z0 z5 oS3 (by decide) (by decide)⟩
      | 1, h => ⟨z1.ek g6 g7, by obtain rfl : false = b := Option.some.inj (show some false = some b from h); exact kit_oth z1 z5 oS3 (by decide) (by decide)⟩
      | 2, h => ⟨z2.ek g6 g7, by obtain rfl : false = b := Option.some.inj (show some false = some b from h); exact kit_oth z2 z5 oS3 (by decide) (by decide)⟩
      | 3, h => ⟨z3.ek g6 g7, by obtain rfl : false = b := Option.some.inj (show some false = some b from h); exact kit_oth z3 z5 oS3 (by decide) (by decide)⟩
      | 4, h => ⟨z4.ek g6 g7, by obtain rfl : false = b := Option.some.inj (show some false = some b from h); exact kit_oth z4 z5 oS3 (by decide) (by decide)⟩
      | 5, h => ⟨z5.ek g6 g7, by obtain rfl : true = b := Option.some.inj (show some true = some b from h); exact kit_own z5⟩
      | 6, h => ⟨z6.ek g6 g7, by obtain rfl : false = b := Option.some.inj (show some false = some b from h); exact kit_oth z6 z5 oS3 (by decide) (by decide)⟩
      | 7, h => ⟨z7.ek g6 g7, by obtain rfl : false = b := Option.some.inj (show some false = some b from h); exact kit_oth z7 z5 oS3 (by decide) (by decide)⟩
      | 8, h => ⟨z8.ek g6 g7, by obtain rfl : false = b := Option.some.inj (show some false = some b from h); exact kit_oth z8 z5 oS3 (by decide) (by decide)⟩
      | 9, h => ⟨z9.ek g6 g7, by obtain rfl : false = b := Option.some.inj (show some false = some b from h); exact kit_oth z9 z5 oS3 (by decide) (by decide)⟩
      | 10, h => ⟨z10.ek g6 g7, by obtain rfl : false = b := Option.some.inj (show some false = some b from h); exact kit_oth z10 z5 oS3 (by decide) (by decide)⟩
      | 11, h => ⟨z11.ek g6 g7, by obtain rfl : false = b := Option.some.inj (show some false = some b from h); exact kit_oth z11 z5 oS3 (by decide) (by decide)⟩
      | 12, h => ⟨z12.ek g6 g7, by obtain rfl : false = b := Option.some.inj (show some false = some b from h); exact kit_oth z12 z5 oS3 (by decide) (by decide)⟩
      | 13, h => ⟨z13.ek g6 g7, by obtain rfl : false = b := Option.some.inj (show some false = some b from h); exact kit_oth z13 z5 oS3 (by decide) (by decide)⟩
      | 14, h => ⟨z14.ek g6 g7, by obtain rfl : false = b := Option.some.inj (show some false = some b from h); exact kit_oth z14 z5 oS3 (by decide) (by decide)⟩
      | 15, h => ⟨z15.ek g6 g7, by obtain rfl : false = b := Option.some.inj (show some false = some b from h); exact kit_oth z15 z5 oS3 (by decide) (by decide)⟩
      | 16, h => ⟨z16.ek g6 g7, by obtain rfl : false = b := Option.some.inj (show some false = some b from h); exact kit_oth z16 z5 oS3 (by decide) (by decide)⟩
      | n + 17, h => absurd h (by unfold q_BadValue; rw [if_neg (by omega)]; simp),
    q_BadWorld := fun i b h => match i, h with
      | 0, h => ⟨z0.ek g6 g7, by obtain rfl : false = b := Option.some.inj (show some false = some b from h); exact kit_oth z0 z4 oS3 (by decide) (by decide)⟩
      | 1, h => ⟨z1.ek g6 g7, by obtain rfl : false = b := Option.some.inj (show some false = some b from h); exact kit_oth z1 z4 oS3 (by decide) (by decide)⟩
      | 2, h => ⟨z2.ek g6 g7, by obtain rfl : false = b := Option.some.inj (show some false = some b from h); exact kit_oth z2 z4 oS3 (by decide) (by decide)⟩
      | 3, h => ⟨z3.ek g6 g7, by obtain rfl : false = b := Option.some.inj (show some false = some b from h); exact kit_oth z3 z4 oS3 (by decide) (by decide)⟩
      | 4, h => ⟨z4.ek g6 g7, by obtain rfl : true = b := Option.some.inj (show some true = some b from h); exact kit_own z4⟩
      | 5, h => ⟨z5.ek g6 g7, by obtain rfl : false = b := Option.some.inj (show some false = some b from h); exact kit_oth z5 z4 oS3 (by decide) (by decide)⟩
      | 6, h => ⟨z6.ek g6 g7, by obtain rfl : false = b := Option.some.inj (show some false = some b from h); exact kit_oth z6 z4 oS3 (by decide) (by decide)⟩
      | 7, h => ⟨z7.ek g6 g7, by obtain rfl : false = b := Option.some.inj (show some false = some b from h); exact kit_oth z7 z4 oS3 (by decide) (by decide)⟩
      | 8, h => ⟨z8.ek g6 g7, by obtain rfl : false = b := Option.some.inj (show some false = some b from h); exact kit_oth z8 z4 oS3 (by decide) (by decide)⟩
      | 9, h => ⟨z9.ek g6 g7, by obtain rfl : false = b := Option.some.inj (show some false = some b from h); exact kit_oth z9 z4 oS3 (by decide) (by decide)⟩
      | 10, h => ⟨z10.ek g6 g7, by obtain rfl : false = b := Option.some.inj (show some false = some b from h); exact kit_oth z10 z4 oS3 (by decide) (by decide)⟩
      | 11, h => ⟨z11.ek g6 g7, by obtain rfl : false = b := Option.some.inj (show some false = some b from h); exact kit_oth z11 z4 oS3 (by decide) (by decide)⟩
      | 12, h => ⟨z12.ek g6 g7, by obtain rfl : false = b := Option.some.inj (show some false = some b from h); exact kit_oth z12 z4 oS3 (by decide) (by decide)⟩
      | 13, h => ⟨z13.ek g6 g7, by obtain rfl : false = b := Option.some.inj (show some false = some b from h); exact kit_oth z13 z4 oS3 (by decide) (by decide)⟩
      | 14, h => ⟨z14.ek g6 g7, by obtain rfl : false = b := Option.some.inj (show some false = some b from h); exact kit_oth z14 z4 oS3 (by decide) (by decide)⟩
      | 15, h => ⟨z15.ek g6 g7, by obtain rfl : false = b := Option.some.inj (show some false = some b from h); exact kit_oth z15 z4 oS3 (by decide) (by decide)⟩
      | 16, h => ⟨z16.ek g6 g7, by obtain rfl : false = b := Option.some.inj (show some false = some b from h); exact kit_oth z16 z4 oS3 (by decide) (by decide)⟩
      | n + 17, h => absurd h (by unfold q_BadWorld; rw [if_neg (by omega)]; simp),
    q_LookupError := fun i b h => match i, h with
      | 0, h => ⟨z0.ek g6 g7, by obtain rfl : false = b := Option.some.inj (show some false = some b from h); exact (kit_type z0.toKObj (by decide +kernel)).trans (by decide +kernel)⟩
      | 1, h => ⟨z1.ek g6 g7, by obtain rfl : false = b := Option.some.inj (show some false = some b from h); exact (kit_type z1.toKObj (by decide +kernel)).trans (by decide +kernel)⟩
      | 2, h => ⟨z2.ek g6 g7, by obtain rfl : false = b := Option.some.inj (show some false = some b from h); exact (kit_type z2.toKObj (by decide +kernel)).trans (by decide +kernel)⟩
      | 3, h => ⟨z3.ek g6 g7, by obtain rfl : false = b := Option.some.inj (show some false = some b from h); exact (kit_type z3.toKObj (by decide +kernel)).trans (by decide +kernel)⟩
      | 4, h => ⟨z4.ek g6 g7, by obtain rfl : false = b := Option.some.inj (show some false = some b from h); exact (kit_type z4.toKObj (by decide +kernel)).trans (by decide +kernel)⟩
      | 5, h => ⟨z5.ek g6 g7, by obtain rfl : false = b := Option.some.inj (show some false = some b from h); exact (kit_type z5.toKObj (by decide +kernel)).trans (by decide +kernel)⟩
      | 6, h => ⟨z6.ek g6 g7, by obtain rfl : false = b := Option.some.inj (show some false = some b from h); exact (kit_type z6.toKObj (by decide +kernel)).trans (by decide +kernel)⟩
      | 7, h => ⟨z7.ek g6 g7, by obtain rfl : false = b := Option.some.inj (show some false = some b from h); exact (kit_type z7.toKObj (by decide +kernel)).trans (by decide +kernel)⟩
      | 8, h => ⟨z8.ek g6 g7, by obtain rfl : false = b := Option.some.inj (show some false = some b from h); exact (kit_type z8.toKObj (by decide +kernel)).trans (by decide +kernel)⟩
      | 9, h => ⟨z9.ek g6 g7, by obtain rfl : false = b := Option.some.inj (show some false = some b from h); exact (kit_type z9.toKObj (by decide +kernel)).trans (by decide +kernel)⟩
      | 10, h => ⟨z10.ek g6 g7, by obtain rfl : false = b := Option.some.inj (show some false = some b from h); exact (kit_type z10.toKObj (by decide +kernel)).trans (by decide +kernel)⟩
      | 11, h => ⟨z11.ek g6 g7, by obtain rfl : false = b := Option.some.inj (show some false = some b from h); exact (kit_type z11.toKObj (by decide +kernel)).trans (by decide +kernel)⟩
      | 12, h => ⟨z12.ek g6 g7, by obtain rfl : false = b := Option.some.inj (show some false = some b from h); exact (kit_type z12.toKObj (by decide +kernel)).trans (by decide +kernel)⟩
      | 13, h => ⟨z13.ek g6 g7, by obtain rfl : false = b := Option.some.inj (show some false = some b from h); exact (kit_type z13.toKObj (by decide +kernel)).trans (by decide +kernel)⟩
      | 14, h => ⟨z14.ek g6 g7, by obtain rfl : false = b := Option.some.inj (show some false = some b from h); exact (kit_type z14.toKObj (by decide +kernel)).trans (by decide +kernel)⟩
      | 15, h => ⟨z15.ek g6 g7, by obtain rfl : false = b := Option.some.inj (show some false = some b from h); exact (kit_type z15.toKObj (by decide +kernel)).trans (by decide +kernel)⟩
      | 16, h => ⟨z16.ek g6 g7, by obtain rfl : true = b := Option.some.inj (show some true = some b from h); exact (kit_type z16.toKObj (by decide +kernel)).trans (by decide +kernel)⟩
      | n + 17, h => by simp [q_LookupError] at h,
    q_NoSuch := fun i b h => match i, h with
      | 0, h => ⟨z0.ek g6 g7, by obtain rfl : false = b := Option.some.inj (show some false = some b from h); exact kit_oth z0 z16 oS3 (by decide) (by decide)⟩
      | 1, h => ⟨z1.ek g6 g7, by obtain rfl : false = b := Option.some.inj (show some false = some b from h); exact kit_oth z1 z16 oS3 (by decide) (by decide)⟩
      | 2, h => ⟨z2.ek g6 g7, by obtain rfl : false = b := Option.some.inj (show some false = some b from h); exact kit_oth z2 z16 oS3 (by decide) (by decide)⟩
      | 3, h => ⟨z3.ek g6 g7, by obtain rfl : false = b := Option.some.inj (show some false = some b from h); exact kit_oth z3 z16 oS3 (by decide) (by decide)⟩
      | 4, h => ⟨z4.ek g6 g7, by obtain rfl : false = b := Option.some.inj (show some false = some b from h); exact kit_oth z4 z16 oS3 (by decide) (by decide)⟩
      | 5, h => ⟨z5.ek g6 g7, by obtain rfl : false = b := Option.some.inj (show some false = some b from h); exact kit_oth z5 z16 oS3 (by decide) (by decide)⟩
      | 6, h => ⟨z6.ek g6 g7, by obtain rfl : false = b := Option.some.inj (show some false = some b from h); exact kit_oth z6 z16 oS3 (by decide) (by decide)⟩
      | 7, h => ⟨z7.ek g6 g7, by obtain rfl : false = b := Option.some.inj (show some false = some b from h); exact kit_oth z7 z16 oS3 (by decide) (by decide)⟩
      | 8, h => ⟨z8.ek g6 g7, by obtain rfl : false = b := Option.some.inj (show some false = some b from h); exact kit_oth z8 z16 oS3 (by decide) (by decide)⟩
      | 9, h => ⟨z9.ek g6 g7, by obtain rfl : false = b := Option.some.inj (show some false = some b from h); exact kit_oth z9 z16 oS3 (by decide) (by decide)⟩
      | 10, h => ⟨z10.ek g6 g7, by obtain rfl : false = b := Option.some.inj (show some false = some b from h); exact kit_oth z10 z16 oS3 (by decide) (by decide)⟩
      | 11, h => ⟨z11.ek g6 g7, by obtain rfl : false = b := Option.some.inj (show some false = some b from h); exact kit_oth z11 z16 oS3 (by decide) (by decide)⟩
      | 12, h => ⟨z12.ek g6 g7, by obtain rfl : false = b := Option.some.inj (show some false = some b from h); exact kit_oth z12 z16 oS3 (by decide) (by decide)⟩
      | 13, h => ⟨z13.ek g6 g7, by obtain rfl : false = b := Option.some.inj (show some false = some b from h); exact kit_oth z13 z16 oS3 (by decide) (by decide)⟩
      | 14, h => ⟨z14.ek g6 g7, by obtain rfl : false = b := Option.some.inj (show some false = some b from h); exact kit_oth z14 z16 oS3 (by decide) (by decide)⟩
      | 15, h => ⟨z15.ek g6 g7, by obtain rfl : false = b := Option.some.inj (show some false = some b from h); exact kit_oth z15 z16 oS3 (by decide) (by decide)⟩
      | 16, h => ⟨z16.ek g6 g7, by obtain rfl : true = b := Option.some.inj (show some true = some b from h); exact kit_own z16⟩
      | n + 17, h => absurd h (by unfold q_NoSuch; rw [if_neg (by omega)]; simp),
    q_OverflowError := fun i b h => match i, h with
      | 0, h => ⟨z0.ek g6 g7, by obtain rfl : false = b := Option.some.inj (show some false = some b from h); exact (kit_type z0.toKObj (by decide +kernel)).trans (by decide +kernel)⟩
      | 1, h => ⟨z1.ek g6 g7, by obtain rfl : false = b := Option.some.inj (show some false = some b from h); exact (kit_type z1.toKObj (by decide +kernel)).trans (by decide +kernel)⟩
      | 2, h => ⟨z2.ek g6 g7, by obtain rfl : false = b := Option.some.inj (show some false = some b from h); exact (kit_type z2.toKObj (by decide +kernel)).trans (by decide +kernel)⟩
      | 3, h => ⟨z3.ek g6 g7, by obtain rfl : false = b := Option.some.inj (show some false = some b from h); exact (kit_type z3.toKObj (by decide +kernel)).trans (by decide +kernel)⟩
      | 4, h => ⟨z4.ek g6 g7, by obtain rfl : false = b := Option.some.inj (show some false = some b from h); exact (kit_type z4.toKObj (by decide +kernel)).trans (by decide +kernel)⟩
      | 5, h => ⟨z5.ek g6 g7, by obtain rfl : false = b := Option.some.inj (show some false = some b from h); exact (kit_type z5.toKObj (by decide +kernel)).trans (by decide +kernel)⟩
      | 6, h => ⟨z6.ek g6 g7, by obtain rfl : false = b := Option.some.inj (show some false = some b from h); exact (kit_type z6.toKObj (by decide +kernel)).trans (by decide +kernel)⟩
      | 7, h => ⟨z7.ek g6 g7, by obtain rfl : false = b := Option.some.inj (show some false = some b from h); exact (kit_type z7.toKObj (by decide +kernel)).trans (by decide +kernel)⟩
      | 8, h => ⟨z8.ek g6 g7, by obtain rfl : false = b := Option.some.inj (show some false = some b from h); exact (kit_type z8.toKObj (by decide +kernel)).trans (by decide +kernel)⟩
      | 9, h => ⟨z9.ek g6 g7, by obtain rfl : false = b := Option.some.inj (show some false = some b from h); exact (kit_type z9.toKObj (by decide +kernel)).trans (by decide +kernel)⟩
      | 10, h => ⟨z10.ek g6 g7, by obtain rfl : false = b := Option.some.inj (show some false = some b from h); exact (kit_type z10.toKObj (by decide +kernel)).trans (by decide +kernel)⟩
      | 11, h => ⟨z11.ek g6 g7, by obtain rfl : false = b := Option.some.inj (show some false = some b from h); exact (kit_type z11.toKObj (by decide +kernel)).trans (by decide +kernel)⟩
      | 12, h => ⟨z12.ek g6 g7, by obtain rfl : false = b := Option.some.inj (show some false = some b from h); exact (kit_type z12.toKObj (by decide +kernel)).trans (by decide +kernel)⟩
      | 13, h => ⟨z13.ek g6 g7, by obtain rfl : false = b := Option.some.inj (show some false = some b from h); exact (kit_type z13.toKObj (by decide +kernel)).trans (by decide +kernel)⟩
      | 14, h => ⟨z14.ek g6 g7, by obtain rfl : false = b := Option.some.inj (show some false = some b from h); exact (kit_type z14.toKObj (by decide +kernel)).trans (by decide +kernel)⟩
      | 15, h => ⟨z15.ek g6 g7, by obtain rfl : true = b := Option.some.inj (show some true = some b from h); exact (kit_type z15.toKObj (by decide +kernel)).trans (by decide +kernel)⟩
      | 16, h => ⟨z16.ek g6 g7, by obtain rfl : false = b := Option.some.inj (show some false = some b from h); exact (kit_type z16.toKObj (by decide +kernel)).trans (by decide +kernel)⟩
      | n + 17, h => by simp [q_OverflowError] at h,
    q_SameError := fun i b h => match i, h with
      | 0, h => ⟨z0.ek g6 g7, by obtain rfl : true = b := Option.some.inj (show some true = some b from h); exact kit_base z0 oS3 tS (by decide)⟩
      | 1, h => ⟨z1.ek g6 g7, by obtain rfl : true = b := Option.some.inj (show some true = some b from h); exact kit_base z1 oS3 tS (by decide)⟩
      | 2, h => ⟨z2.ek g6 g7, by obtain rfl : true = b := Option.some.inj (show some true = some b from h); exact kit_base z2 oS3 tS (by decide)⟩
      | 3, h => ⟨z3.ek g6 g7, by obtain rfl : true = b := Option.some.inj (show some true = some b from h); exact kit_base z3 oS3 tS (by decide)⟩
      | 4, h => ⟨z4.ek g6 g7, by obtain rfl : true = b := Option.some.inj (show some true = some b from h); exact kit_base z4 oS3 tS (by decide)⟩
      | 5, h => ⟨z5.ek g6 g7, by obtain rfl : true = b := Option.some.inj (show some true = some b from h); exact kit_base z5 oS3 tS (by decide)⟩
      | 6, h => ⟨z6.ek g6 g7, by obtain rfl : true = b := Option.some.inj (show some true = some b from h); exact kit_base z6 oS3 tS (by decide)⟩
      | 7, h => ⟨z7.ek g6 g7, by obtain rfl : true = b := Option.some.inj (show some true = some b from h); exact kit_base z7 oS3 tS (by decide)⟩
      | 8, h => ⟨z8.ek g6 g7, by obtain rfl : true = b := Option.some.inj (show some true = some b from h); exact kit_base z8 oS3 tS (by decide)⟩
      | 9, h => ⟨z9.ek g6 g7, by obtain rfl : true = b := Option.some.inj (show some true = some b from h); exact kit_base z9 oS3 tS (by decide)⟩
      | 10, h => ⟨z10.ek g6 g7, by obtain rfl : true = b := Option.some.inj (show some true = some b from h); exact kit_base z10 oS3 tS (by decide)⟩
      | 11, h => ⟨z11.ek g6 g7, by obtain rfl : true = b := Option.some.inj (show some true = some b from h); exact kit_base z11 oS3 tS (by decide)⟩
      | 12, h => ⟨z12.ek g6 g7, by obtain rfl : true = b := Option.some.inj (show some true = some b from h); exact kit_base z12 oS3 tS (by decide)⟩
      | 13, h => ⟨z13.ek g6 g7, by obtain rfl : true = b := Option.some.inj (show some true = some b from h); exact kit_base z13 oS3 tS (by decide)⟩
      | 14, h => ⟨z14.ek g6 g7, by obtain rfl : true = b := Option.some.inj (show some true = some b from h); exact kit_base z14 oS3 tS (by decide)⟩
      | 15, h => ⟨z15.ek g6 g7, by obtain rfl : false = b := Option.some.inj (show some false = some b from h); exact kit_base z15 oS3 tS (by decide)⟩
      | 16, h => ⟨z16.ek g6 g7, by obtain rfl : false = b := Option.some.inj (show some false = some b from h); exact kit_base z16 oS3 tS (by decide)⟩
      | n + 17, h => by simp [q_SameError] at h,
    q_TooMany := fun i b h => match i, h with
      | 0, h => ⟨z0.ek g6 g7, by obtain rfl : false = b := Option.some.inj (show some false = some b from h); exact kit_oth z0 z15 oS3 (by decide) (by decide)⟩
      | 1, h => ⟨z1.ek g6 g7, by obtain rfl : false = b := Option.some.inj (show some false = some b from h); exact kit_oth z1 z15 oS3 (by decide) (by decide)⟩
      | 2, h => ⟨z2.ek g6 g7, by obtain rfl : false = b := Option.some.inj (show some false = some b from h); exact kit_oth z2 z15 oS3 (by decide) (by decide)⟩
      | 3, h => ⟨z3.ek g6 g7, by obtain rfl : false = b := Option.some.inj (show some false = some b from h); exact kit_oth z3 z15 oS3 (by decide) (by decide)⟩
      | 4, h => ⟨z4.ek g6 g7, by obtain rfl : false = b := Option.some.inj (show some false = some b from h); exact kit_oth z4 z15 oS3 (by decide) (by decide)⟩
      | 5, h => ⟨z5.ek g6 g7, by obtain rfl : false = b := Option.some.inj (show some false = some b from h); exact kit_oth z5 z15 oS3 (by decide) (by decide)⟩
      | 6, h => ⟨z6.ek g6 g7, by obtain rfl : false = b := Option.some.inj (show some false = some b from h); exact kit_oth z6 z15 oS3 (by decide) (by decide)⟩
      | 7, h => ⟨z7.ek g6 g7, by obtain rfl : false = b := Option.some.inj (show some false = some b from h); exact kit_oth z7 z15 oS3 (by decide) (by decide)⟩
      | 8, h => ⟨z8.ek g6 g7, by obtain rfl : false = b := Option.some.inj (show some false = some b from h); exact kit_oth z8 z15 oS3 (by decide) (by decide)⟩
      | 9, h => ⟨z9.ek g6 g7, by obtain rfl : false = b := Option.some.inj (show some false = some b from h); exact kit_oth z9 z15 oS3 (by decide) (by decide)⟩
      | 10, h => ⟨z10.ek g6 g7, by obtain rfl : false = b := Option.some.inj (show some false = some b from h); exact kit_oth z10 z15 oS3 (by decide) (by decide)⟩
      | 11, h => ⟨z11.ek g6 g7, by obtain rfl : false = b := Option.some.inj (show some false = some b from h); exact kit_oth z11 z15 oS3 (by decide) (by decide)⟩
      | 12, h => ⟨z12.ek g6 g7, by obtain rfl : false = b := Option.some.inj (show some false = some b from h); exact kit_oth z12 z15 oS3 (by decide) (by decide)⟩
      | 13, h => ⟨z13.ek g6 g7, by obtain rfl : false = b := Option.some.inj (show some false = some b from h); exact kit_oth z13 z15 oS3 (by decide) (by decide)⟩
      | 14, h => ⟨z14.ek g6 g7, by obtain rfl : false = b := Option.some.inj (show some false = some b from h); exact kit_oth z14 z15 oS3 (by decide) (by decide)⟩
      | 15, h => ⟨z15.ek g6 g7, by obtain rfl : true = b := Option.some.inj (show some true = some b from h); exact kit_own z15⟩
      | 16, h => ⟨z16.ek g6 g7, by obtain rfl : false = b := Option.some.inj (show some false = some b from h); exact kit_oth z16 z15 oS3 (by decide) (by decide)⟩
      | n + 17, h => absurd h (by unfold q_TooMany; rw [if_neg (by omega)]; simp),
    q_ValueError := fun i b h => match i, h with
      | 0, h => ⟨z0.ek g6 g7, by obtain rfl : true = b := Option.some.inj (show some true = some b from h); exact (kit_type z0.toKObj (by decide +kernel)).trans (by decide +kernel)⟩
      | 1, h => ⟨z1.ek g6 g7, by obtain rfl : true = b := Option.some.inj (show some true = some b from h); exact (kit_type z1.toKObj (by decide +kernel)).trans (by decide +kernel)⟩
      | 2, h => ⟨z2.ek g6 g7, by obtain rfl : true = b := Option.some.inj (show some true = some b from h); exact (kit_type z2.toKObj (by decide +kernel)).trans (by decide +kernel)⟩
      | 3, h => ⟨z3.ek g6 g7, by obtain rfl : true = b := Option.some.inj (show some true = some b from h); exact (kit_type z3.toKObj (by decide +kernel)).trans (by decide +kernel)⟩
      | 4, h => ⟨z4.ek g6 g7, by obtain rfl : true = b := Option.some.inj (show some true = some b from h); exact (kit_type z4.toKObj (by decide +kernel)).trans (by decide +kernel)⟩
      | 5, h => ⟨z5.ek g6 g7, by obtain rfl : true = b := Option.some.inj (show some true = some b from h); exact (kit_type z5.toKObj (by decide +kernel)).trans (by decide +kernel)⟩
      | 6, h => ⟨z6.ek g6 g7, by obtain rfl : true = b := Option.some.inj (show some true = some b from h); exact (kit_type z6.toKObj (by decide +kernel)).trans (by decide +kernel)⟩
      | 7, h => ⟨z7.ek g6 g7, by obtain rfl : true = b := Option.some.inj (show some true = some b from h); exact (kit_type z7.toKObj (by decide +kernel)).trans (by decide +kernel)⟩
      | 8, h => ⟨z8.ek g6 g7, by obtain rfl : true = b := Option.some.inj (show some true = some b from h); exact (kit_type z8.toKObj (by decide +kernel)).trans (by decide +kernel)⟩
      | 9, h => ⟨z9.ek g6 g7, by obtain rfl : true = b := Option.some.inj (show some true = some b from h); exact (kit_type z9.toKObj (by decide +kernel)).trans (by decide +kernel)⟩
      | 10, h => ⟨z10.ek g6 g7, by obtain rfl : true = b := Option.some.inj (show some true = some b from h); exact (kit_type z10.toKObj (by decide +kernel)).trans (by decide +kernel)⟩
      | 11, h => ⟨z11.ek g6 g7, by obtain rfl : true = b := Option.some.inj (show some true = some b from h); exact (kit_type z11.toKObj (by decide +kernel)).trans (by decide +kernel)⟩
      | 12, h => ⟨z12.ek g6 g7, by obtain rfl : true = b := Option.some.inj (show some true = some b from h); exact (kit_type z12.toKObj (by decide +kernel)).trans (by decide +kernel)⟩
      | 13, h => ⟨z13.ek g6 g7, by obtain rfl : true = b := Option.some.inj (show some true = some b from h); exact (kit_type z13.toKObj (by decide +kernel)).trans (by decide +kernel)⟩
      | 14, h => ⟨z14.ek g6 g7, by obtain rfl : true = b := Option.some.inj (show some true = some b from h); exact (kit_type z14.toKObj (by decide +kernel)).trans (by decide +kernel)⟩
      | 15, h => ⟨z15.ek g6 g7, by obtain rfl : false = b := Option.some.inj (show some false = some b from h); exact (kit_type z15.toKObj (by decide +kernel)).trans (by decide +kernel)⟩
      | 16, h => ⟨z16.ek g6 g7, by obtain rfl : false = b := Option.some.inj (show some false = some b from h); exact (kit_type z16.toKObj (by decide +kernel)).trans (by decide +kernel)⟩
      | n + 17, h => by simp [q_ValueError] at h,
    fq_most := fun c h => match c, h with
      | 0, h => absurd (show false = true from h) (by decide)
      | 1, h => absurd (show false = true from h) (by decide)
      | 2, h => absurd (show false = true from h) (by decide)
      | 3, h => absurd (show false = true from h) (by decide)
      | 4, h => absurd (show false = true from h) (by decide)
      | 5, h => absurd (show false = true from h) (by decide)
      | 6, h => absurd (show false = true from h) (by decide)
      | 7, h => absurd (show false = true from h) (by decide)
      | 8, h => absurd (show false = true from h) (by decide)
      | 9, h => absurd (show false = true from h) (by decide)
      | 10, h => absurd (show false = true from h) (by decide)
      | 11, h => absurd (show false = true from h) (by decide)
      | 12, h => absurd (show false = true from h) (by decide)
      | 13, h => absurd (show false = true from h) (by decide)
      | 14, h => absurd (show false = true from h) (by decide)
      | 15, _ => ⟨rfl, z15.xf, z15.nf⟩
      | 16, h => absurd (show false = true from h) (by decide)
      | n + 17, h => by simp [fs_most] at h,
    fq_place := fun c h => match c, h with
      | 0, _ => ⟨rfl, z0.xf, z0.nf⟩
      | 1, _ => ⟨rfl, z1.xf, z1.nf⟩
      | 2, _ => ⟨rfl, z2.xf, z2.nf⟩
      | 3, _ => ⟨rfl, z3.xf, z3.nf⟩
      | 4, _ => ⟨rfl, z4.xf, z4.nf⟩
      | 5, _ => ⟨rfl, z5.xf, z5.nf⟩
      | 6, _ => ⟨rfl, z6.xf, z6.nf⟩
      | 7, _ => ⟨rfl, z7.xf, z7.nf⟩
      | 8, _ => ⟨rfl, z8.xf, z8.nf⟩
      | 9, _ => ⟨rfl, z9.xf, z9.nf⟩
      | 10, h => absurd (show false = true from h) (by decide)
      | 11, h => absurd (show false = true from h) (by decide)
      | 12, _ => ⟨rfl, z12.xf, z12.nf⟩
      | 13, _ => ⟨rfl, z13.xf, z13.nf⟩
      | 14, _ => ⟨rfl, z14.xf, z14.nf⟩
      | 15, h => absurd (show false = true from h) (by decide)
      | 16, h => absurd (show false = true from h) (by decide)
      | n + 17, h => by simp [fs_place] at h,
    fq_value := fun c h => match c, h with
      | 0, h => absurd (show false = true from h) (by decide)
      | 1, h => absurd (show false = true from h) (by decide)
      | 2, h => absurd (show false = true from h) (by decide)
      | 3, h => absurd (show false = true from h) (by decide)
      | 4, h => absurd (show false = true from h) (by decide)
      | 5, h => absurd (show false = true from h) (by decide)
      | 6, h => absurd (show false = true from h) (by decide)
      | 7, h => absurd (show false = true from h) (by decide)
      | 8, h => absurd (show false = true from h) (by decide)
      | 9, h => absurd (show false = true from h) (by decide)
      | 10, _ => ⟨rfl, z10.xf, z10.nf⟩
      | 11, _ => ⟨rfl, z11.xf, z11.nf⟩
      | 12, h => absurd (show false = true from h) (by decide)
      | 13, h => absurd (show false = true from h) (by decide)
      | 14, h => absurd (show false = true from h) (by decide)
      | 15, h => absurd (show false = true from h) (by decide)
      | 16, _ => ⟨rfl, z16.xf, z16.nf⟩
      | n + 17, h => by simp [fs_value] at h,
    strq := fun c h => match c, h with
      | 0, _ => ⟨z0.gs, z0.exC⟩
      | 1, _ => ⟨z1.gs, z1.exC⟩
      | 2, _ => ⟨z2.gs, z2.exC⟩
      | 3, _ => ⟨z3.gs, z3.exC⟩
      | 4, _ => ⟨z4.gs, z4.exC⟩
      | 5, _ => ⟨z5.gs, z5.exC⟩
      | 6, _ => ⟨z6.gs, z6.exC⟩
      | 7, _ => ⟨z7.gs, z7.exC⟩
      | 8, _ => ⟨z8.gs, z8.exC⟩
      | 9, _ => ⟨z9.gs, z9.exC⟩
      | 10, _ => ⟨z10.gs, z10.exC⟩
      | 11, _ => ⟨z11.gs, z11.exC⟩
      | 12, _ => ⟨z12.gs, z12.exC⟩
      | 13, _ => ⟨z13.gs, z13.exC⟩
      | 14, _ => ⟨z14.gs, z14.exC⟩
      | 15, _ => ⟨z15.gs, z15.exC⟩
      | 16, _ => ⟨z16.gs, z16.exC⟩
      | n + 17, h => absurd (of_decide_eq_true h) (by omega) }
  exact all_fn T F0 F1 F2 F3 F4 F5 F6 F7 6 7 (by decide)
end LW

open PySem PySem.W PyProof.Rows
set_option maxRecDepth 100000 in
set_option maxHeartbeats 0 in
theorem PySem.Challenge.cw_sameinworlds_k99_errors_by_hand_holds : PySem.Challenge.rw_sameinworlds_k99_errors_by_hand.Holds := by
  w_on; o_law; k_head; (case hw => w_witness2)
  k_fill
  refine TL.walk_T (l := PySem.Challenge.rw_sameinworlds_k99_errors_by_hand) (n := 63) (k := 6) (x := "script") (F := LW.Φ 6 7) rfl (by decide) rfl (TL.caller_room (by decide) (by decide)) (fun w h Y => PySem.W.kIn_of Y) ?F LW.law_true
  case F =>
    intro w mg fa h KX G hmg
    refine' LW.all_mk KX G hmg ?gS ?lS ?eS ?tS ?rS ?sS ?fS ?fB1 ?fB2 ?a0 ?z0 ?y0 ?w0 ?v0 ?x0 ?a1 ?z1 ?y1 ?w1 ?v1 ?x1 ?a2 ?z2 ?y2 ?w2 ?v2 ?x2 ?a3 ?z3 ?y3 ?w3 ?v3 ?x3 ?a4 ?z4 ?y4 ?w4 ?v4 ?x4 ?a5 ?z5 ?y5 ?w5 ?v5 ?x5 ?a6 ?z6 ?y6 ?w6 ?v6 ?x6 ?a7 ?z7 ?y7 ?w7 ?v7 ?x7 ?a8 ?z8 ?y8 ?w8 ?v8 ?x8 ?a9 ?z9 ?y9 ?w9 ?v9 ?x9 ?a10 ?z10 ?y10 ?w10 ?v10 ?x10 ?a11 ?z11 ?y11 ?w11 ?v11 ?x11 ?a12 ?z12 ?y12 ?w12 ?v12 ?x12 ?a13 ?z13 ?y13 ?w13 ?v13 ?x13 ?a14 ?z14 ?y14 ?w14 ?v14 ?x14 ?a15 ?z15 ?y15 ?w15 ?a16 ?z16 ?y16 ?w16 ?v16 ?x16 ?k0 ?k1 ?k2 ?k3 ?k4 ?k5 ?k6 ?k7 ?n_LookupError ?n_OverflowError ?n_ValueError ?n_enumerate ?n_isinstance ?n_range ?n_str ?n_sum ?g6 ?g7
    (case gS => k_is)
    (case lS => k_is)
    (case eS => exact ⟨_, _, _, _, _, _, _, _, _, _, _, _, _, rfl⟩)
    (case tS => k_is)
    (case rS => k_is)
    (case sS => k_is)
    (case fS => k_is)
    (case fB1 => k_is)
    (case fB2 => k_is)
    (case a0 => k_is)
    (case z0 => refine' ⟨⟨?z0_lo, ?z0_ex⟩, ?z0_sa, ?z0_ga, ?z0_gg, ?z0_gc, ?z0_gs, ?z0_nf, ?z0_tC, ?z0_kC⟩; (case z0_lo => k_is); (case z0_ex => exact ⟨_, _, _, _, _, _, _, _, _, _, _, _, _, rfl⟩); (case z0_sa => k_is); (case z0_ga => k_is); (case z0_gg => k_is); (case z0_gc => k_is); (case z0_gs => k_is); (case z0_nf => k_is); (case z0_tC => k_is); (case z0_kC => k_is))
    (case y0 => refine' ⟨?y0_a1, ?y0_t1, ?y0_l1, ?y0_e1, ?y0_c1, ?y0_k1⟩; (case y0_a1 => k_is); (case y0_t1 => k_is); (case y0_l1 => k_is); (case y0_e1 => exact ⟨_, _, _, _, _, _, _, _, rfl⟩); (case y0_c1 => k_is); (case y0_k1 => k_is))
    (case w0 => exact rfl)
    (case v0 => k_is)
    (case x0 => exact ⟨_, _, _, _, rfl⟩)
    (case a1 => k_is)
    (case z1 => refine' ⟨⟨?z1_lo, ?z1_ex⟩, ?z1_sa, ?z1_ga, ?z1_gg, ?z1_gc, ?z1_gs, ?z1_nf, ?z1_tC, ?z1_kC⟩; (case z1_lo => k_is); (case z1_ex => exact ⟨_, _, _, _, _, _, _, _, _, _, _, _, _, rfl⟩); (case z1_sa => k_is); (case z1_ga => k_is); (case z1_gg => k_is); (case z1_gc => k_is); (case z1_gs => k_is); (case z1_nf => k_is); (case z1_tC => k_is); (case z1_kC => k_is))
    (case y1 => refine' ⟨?y1_a1, ?y1_t1, ?y1_l1, ?y1_e1, ?y1_c1, ?y1_k1⟩; (case y1_a1 => k_is); (case y1_t1 => k_is); (case y1_l1 => k_is); (case y1_e1 => exact ⟨_, _, _, _, _, _, _, _, rfl⟩); (case y1_c1 => k_is); (case y1_k1 => k_is))
    (case w1 => exact rfl)
    (case v1 => k_is)
    (case x1 => exact ⟨_, _, _, _, rfl⟩)
    (case a2 => k_is)
    (case z2 => refine' ⟨⟨?z2_lo, ?z2_ex⟩, ?z2_sa, ?z2_ga, ?z2_gg, ?z2_gc, ?z2_gs, ?z2_nf, ?z2_tC, ?z2_kC⟩; (case z2_lo => k_is); (case z2_ex => exact ⟨_, _, _, _, _, _, _, _, _, _, _, _, _, rfl⟩); (case z2_sa => k_is); (case z2_ga => k_is); (case z2_gg => k_is); (case z2_gc => k_is); (case z2_gs => k_is); (case z2_nf => k_is); (case z2_tC => k_is); (case z2_kC => k_is))
    (case y2 => refine' ⟨?y2_a1, ?y2_t1, ?y2_l1, ?y2_e1, ?y2_c1, ?y2_k1⟩; (case y2_a1 => k_is); (case y2_t1 => k_is); (case y2_l1 => k_is); (case y2_e1 => exact ⟨_, _, _, _, _, _, _, _, rfl⟩); (case y2_c1 => k_is); (case y2_k1 => k_is))
    (case w2 => exact rfl)
    (case v2 => k_is)
    (case x2 => exact ⟨_, _, _, _, rfl⟩)
    (case a3 => k_is)
    (case z3 => refine' ⟨⟨?z3_lo, ?z3_ex⟩, ?z3_sa, ?z3_ga, ?z3_gg, ?z3_gc, ?z3_gs, ?z3_nf, ?z3_tC, ?z3_kC⟩; (case z3_lo => k_is); (case z3_ex => exact ⟨_, _, _, _, _, _, _, _, _, _, _, _, _, rfl⟩); (case z3_sa => k_is); (case z3_ga => k_is); (case z3_gg => k_is); (case z3_gc => k_is); (case z3_gs => k_is); (case z3_nf => k_is); (case z3_tC => k_is); (case z3_kC => k_is))
    (case y3 => refine' ⟨?y3_a1, ?y3_t1, ?y3_l1, ?y3_e1, ?y3_c1, ?y3_k1⟩; (case y3_a1 => k_is); (case y3_t1 => k_is); (case y3_l1 => k_is); (case y3_e1 => exact ⟨_, _, _, _, _, _, _, _, rfl⟩); (case y3_c1 => k_is); (case y3_k1 => k_is))
    (case w3 => exact rfl)
    (case v3 => k_is)
    (case x3 => exact ⟨_, _, _, _, rfl⟩)
    (case a4 => k_is)
    (case z4 => refine' ⟨⟨?z4_lo, ?z4_ex⟩, ?z4_sa, ?z4_ga, ?z4_gg, ?z4_gc, ?z4_gs, ?z4_nf, ?z4_tC, ?z4_kC⟩; (case z4_lo => k_is); (case z4_ex => exact ⟨_, _, _, _, _, _, _, _, _, _, _, _, _, rfl⟩); (case z4_sa => k_is); (case z4_ga => k_is); (case z4_gg => k_is); (case z4_gc => k_is); (case z4_gs => k_is); (case z4_nf => k_is); (case z4_tC => k_is); (case z4_kC => k_is))
    (case y4 => refine' ⟨?y4_a1, ?y4_t1, ?y4_l1, ?y4_e1, ?y4_c1, ?y4_k1⟩; (case y4_a1 => k_is); (case y4_t1 => k_is); (case y4_l1 => k_is); (case y4_e1 => exact ⟨_, _, _, _, _, _, _, _, rfl⟩); (case y4_c1 => k_is); (case y4_k1 => k_is))
    (case w4 => exact rfl)
    (case v4 => k_is)
    (case x4 => exact ⟨_, _, _, _, rfl⟩)
    (case a5 => k_is)
    (case z5 => refine' ⟨⟨?z5_lo, ?z5_ex⟩, ?z5_sa, ?z5_ga, ?z5_gg, ?z5_gc, ?z5_gs, ?z5_nf, ?z5_tC, ?z5_kC⟩; (case z5_lo => k_is); (case z5_ex => exact ⟨_, _, _, _, _, _, _, _, _, _, _, _, _, rfl⟩); (case z5_sa => k_is); (case z5_ga => k_is); (case z5_gg => k_is); (case z5_gc => k_is); (case z5_gs => k_is); (case z5_nf => k_is); (case z5_tC => k_is); (case z5_kC => k_is))
    (case y5 => refine' ⟨?y5_a1, ?y5_t1, ?y5_l1, ?y5_e1, ?y5_c1, ?y5_k1⟩; (case y5_a1 => k_is); (case y5_t1 => k_is); (case y5_l1 => k_is); (case y5_e1 => exact ⟨_, _, _, _, _, _, _, _, rfl⟩); (case y5_c1 => k_is); (case y5_k1 => k_is))
    (case w5 => exact rfl)
    (case v5 => k_is)
    (case x5 => exact ⟨_, _, _, _, rfl⟩)
    (case a6 => k_is)
    (case z6 => refine' ⟨⟨?z6_lo, ?z6_ex⟩, ?z6_sa, ?z6_ga, ?z6_gg, ?z6_gc, ?z6_gs, ?z6_nf, ?z6_tC, ?z6_kC⟩; (case z6_lo => k_is); (case z6_ex => exact ⟨_, _, _, _, _, _, _, _, _, _, _, _, _, rfl⟩); (case z6_sa => k_is); (case z6_ga => k_is); (case z6_gg => k_is); (case z6_gc => k_is); (case z6_gs => k_is); (case z6_nf => k_is); (case z6_tC => k_is); (case z6_kC => k_is))
    (case y6 => refine' ⟨?y6_a1, ?y6_t1, ?y6_l1, ?y6_e1, ?y6_c1, ?y6_k1⟩; (case y6_a1 => k_is); (case y6_t1 => k_is); (case y6_l1 => k_is); (case y6_e1 => exact ⟨_, _, _, _, _, _, _, _, rfl⟩); (case y6_c1 => k_is); (case y6_k1 => k_is))
    (case w6 => exact rfl)
    (case v6 => k_is)
    (case x6 => exact ⟨_, _, _, _, rfl⟩)
    (case a7 => k_is)
    (case z7 => refine' ⟨⟨?z7_lo, ?z7_ex⟩, ?z7_sa, ?z7_ga, ?z7_gg, ?z7_gc, ?z7_gs, ?z7_nf, ?z7_tC, ?z7_kC⟩; (case z7_lo => k_is); (case z7_ex => exact ⟨_, _, _, _, _, _, _, _, _, _, _, _, _, rfl⟩); (case z7_sa => k_is); (case z7_ga => k_is); (case z7_gg => k_is); (case z7_gc => k_is); (case z7_gs => k_is); (case z7_nf => k_is); (case z7_tC => k_is); (case z7_kC => k_is))
    (case y7 => refine' ⟨?y7_a1, ?y7_t1, ?y7_l1, ?y7_e1, ?y7_c1, ?y7_k1⟩; (case y7_a1 => k_is); (case y7_t1 => k_is); (case y7_l1 => k_is); (case y7_e1 => exact ⟨_, _, _, _, _, _, _, _, rfl⟩); (case y7_c1 => k_is); (case y7_k1 => k_is))
    (case w7 => exact rfl)
    (case v7 => k_is)
    (case x7 => exact ⟨_, _, _, _, rfl⟩)
    (case a8 => k_is)
    (case z8 => refine' ⟨⟨?z8_lo, ?z8_ex⟩, ?z8_sa, ?z8_ga, ?z8_gg, ?z8_gc, ?z8_gs, ?z8_nf, ?z8_tC, ?z8_kC⟩; (case z8_lo => k_is); (case z8_ex => exact ⟨_, _, _, _, _, _, _, _, _, _, _, _, _, rfl⟩); (case z8_sa => k_is); (case z8_ga => k_is); (case z8_gg => k_is); (case z8_gc => k_is); (case z8_gs => k_is); (case z8_nf => k_is); (case z8_tC => k_is); (case z8_kC => k_is))
    (case y8 => refine' ⟨?y8_a1, ?y8_t1, ?y8_l1, ?y8_e1, ?y8_c1, ?y8_k1⟩; (case y8_a1 => k_is); (case y8_t1 => k_is); (case y8_l1 => k_is); (case y8_e1 => exact ⟨_, _, _, _, _, _, _, _, rfl⟩); (case y8_c1 => k_is); (case y8_k1 => k_is))
    (case w8 => exact rfl)
    (case v8 => k_is)
    (case x8 => exact ⟨_, _, _, _, rfl⟩)
    (case a9 => k_is)
    (case z9 => refine' ⟨⟨?z9_lo, ?z9_ex⟩, ?z9_sa, ?z9_ga, ?z9_gg, ?z9_gc, ?z9_gs, ?z9_nf, ?z9_tC, ?z9_kC⟩; (case z9_lo => k_is); (case z9_ex => exact ⟨_, _, _, _, _, _, _, _, _, _, _, _, _, rfl⟩); (case z9_sa => k_is); (case z9_ga => k_is); (case z9_gg => k_is); (case z9_gc => k_is); (case z9_gs => k_is); (case z9_nf => k_is); (case z9_tC => k_is); (case z9_kC => k_is))
    (case y9 => refine' ⟨?y9_a1, ?y9_t1, ?y9_l1, ?y9_e1, ?y9_c1, ?y9_k1⟩; (case y9_a1 => k_is); (case y9_t1 => k_is); (case y9_l1 => k_is); (case y9_e1 => exact ⟨_, _, _, _, _, _, _, _, rfl⟩); (case y9_c1 => k_is); (case y9_k1 => k_is))
    (case w9 => exact rfl)
    (case v9 => k_is)
    (case x9 => exact ⟨_, _, _, _, rfl⟩)
    (case a10 => k_is)
    (case z10 => refine' ⟨⟨?z10_lo, ?z10_ex⟩, ?z10_sa, ?z10_ga, ?z10_gg, ?z10_gc, ?z10_gs, ?z10_nf, ?z10_tC, ?z10_kC⟩; (case z10_lo => k_is); (case z10_ex => exact ⟨_, _, _, _, _, _, _, _, _, _, _, _, _, rfl⟩); (case z10_sa => k_is); (case z10_ga => k_is); (case z10_gg => k_is); (case z10_gc => k_is); (case z10_gs => k_is); (case z10_nf => k_is); (case z10_tC => k_is); (case z10_kC => k_is))
    (case y10 => refine' ⟨?y10_a1, ?y10_t1, ?y10_l1, ?y10_e1, ?y10_c1, ?y10_k1⟩; (case y10_a1 => k_is); (case y10_t1 => k_is); (case y10_l1 => k_is); (case y10_e1 => exact ⟨_, _, _, _, _, _, _, _, rfl⟩); (case y10_c1 => k_is); (case y10_k1 => k_is))
    (case w10 => exact rfl)
    (case v10 => k_is)
    (case x10 => exact ⟨_, _, _, _, rfl⟩)
    (case a11 => k_is)
    (case z11 => refine' ⟨⟨?z11_lo, ?z11_ex⟩, ?z11_sa, ?z11_ga, ?z11_gg, ?z11_gc, ?z11_gs, ?z11_nf, ?z11_tC, ?z11_kC⟩; (case z11_lo => k_is); (case z11_ex => exact ⟨_, _, _, _, _, _, _, _, _, _, _, _, _, rfl⟩); (case z11_sa => k_is); (case z11_ga => k_is); (case z11_gg => k_is); (case z11_gc => k_is); (case z11_gs => k_is); (case z11_nf => k_is); (case z11_tC => k_is); (case z11_kC => k_is))
    (case y11 => refine' ⟨?y11_a1, ?y11_t1, ?y11_l1, ?y11_e1, ?y11_c1, ?y11_k1⟩; (case y11_a1 => k_is); (case y11_t1 => k_is); (case y11_l1 => k_is); (case y11_e1 => exact ⟨_, _, _, _, _, _, _, _, rfl⟩); (case y11_c1 => k_is); (case y11_k1 => k_is))
    (case w11 => exact rfl)
    (case v11 => k_is)
    (case x11 => exact ⟨_, _, _, _, rfl⟩)
    (case a12 => k_is)
    (case z12 => refine' ⟨⟨?z12_lo, ?z12_ex⟩, ?z12_sa, ?z12_ga, ?z12_gg, ?z12_gc, ?z12_gs, ?z12_nf, ?z12_tC, ?z12_kC⟩; (case z12_lo => k_is); (case z12_ex => exact ⟨_, _, _, _, _, _, _, _, _, _, _, _, _, rfl⟩); (case z12_sa => k_is); (case z12_ga => k_is); (case z12_gg => k_is); (case z12_gc => k_is); (case z12_gs => k_is); (case z12_nf => k_is); (case z12_tC => k_is); (case z12_kC => k_is))
    (case y12 => refine' ⟨?y12_a1, ?y12_t1, ?y12_l1, ?y12_e1, ?y12_c1, ?y12_k1⟩; (case y12_a1 => k_is); (case y12_t1 => k_is); (case y12_l1 => k_is); (case y12_e1 => exact ⟨_, _, _, _, _, _, _, _, rfl⟩); (case y12_c1 => k_is); (case y12_k1 => k_is))
    (case w12 => exact rfl)
    (case v12 => k_is)
    (case x12 => exact ⟨_, _, _, _, rfl⟩)
    (case a13 => k_is)
    (case z13 => refine' ⟨⟨?z13_lo, ?z13_ex⟩, ?z13_sa, ?z13_ga, ?z13_gg, ?z13_gc, ?z13_gs, ?z13_nf, ?z13_tC, ?z13_kC⟩; (case z13_lo => k_is); (case z13_ex => exact ⟨_, _, _, _, _, _, _, _, _, _, _, _, _, rfl⟩); (case z13_sa => k_is); (case z13_ga => k_is); (case z13_gg => k_is); (case z13_gc => k_is); (case z13_gs => k_is); (case z13_nf => k_is); (case z13_tC => k_is); (case z13_kC => k_is))
    (case y13 => refine' ⟨?y13_a1, ?y13_t1, ?y13_l1, ?y13_e1, ?y13_c1, ?y13_k1⟩; (case y13_a1 => k_is); (case y13_t1 => k_is); (case y13_l1 => k_is); (case y13_e1 => exact ⟨_, _, _, _, _, _, _, _, rfl⟩); (case y13_c1 => k_is); (case y13_k1 => k_is))
    (case w13 => exact rfl)
    (case v13 => k_is)
    (case x13 => exact ⟨_, _, _, _, rfl⟩)
    (case a14 => k_is)
    (case z14 => refine' ⟨⟨?z14_lo, ?z14_ex⟩, ?z14_sa, ?z14_ga, ?z14_gg, ?z14_gc, ?z14_gs, ?z14_nf, ?z14_tC, ?z14_kC⟩; (case z14_lo => k_is); (case z14_ex => exact ⟨_, _, _, _, _, _, _, _, _, _, _, _, _, rfl⟩); (case z14_sa => k_is); (case z14_ga => k_is); (case z14_gg => k_is); (case z14_gc => k_is); (case z14_gs => k_is); (case z14_nf => k_is); (case z14_tC => k_is); (case z14_kC => k_is))
    (case y14 => refine' ⟨?y14_a1, ?y14_t1, ?y14_l1, ?y14_e1, ?y14_c1, ?y14_k1⟩; (case y14_a1 => k_is); (case y14_t1 => k_is); (case y14_l1 => k_is); (case y14_e1 => exact ⟨_, _, _, _, _, _, _, _, rfl⟩); (case y14_c1 => k_is); (case y14_k1 => k_is))
    (case w14 => exact rfl)
    (case v14 => k_is)
    (case x14 => exact ⟨_, _, _, _, rfl⟩)
    (case a15 => k_is)
    (case z15 => refine' ⟨⟨?z15_lo, ?z15_ex⟩, ?z15_sa, ?z15_ga, ?z15_gg, ?z15_gc, ?z15_gs, ?z15_nf, ?z15_tC, ?z15_kC⟩; (case z15_lo => k_is); (case z15_ex => exact ⟨_, _, _, _, _, _, _, _, _, _, _, _, _, rfl⟩); (case z15_sa => k_is); (case z15_ga => k_is); (case z15_gg => k_is); (case z15_gc => k_is); (case z15_gs => k_is); (case z15_nf => k_is); (case z15_tC => k_is); (case z15_kC => k_is))
    (case y15 => refine' ⟨?y15_a1, ?y15_t1, ?y15_l1, ?y15_e1, ?y15_c1, ?y15_k1⟩; (case y15_a1 => k_is); (case y15_t1 => k_is); (case y15_l1 => k_is); (case y15_e1 => exact ⟨_, _, _, _, _, _, _, _, rfl⟩); (case y15_c1 => k_is); (case y15_k1 => k_is))
    (case w15 => exact rfl)
    (case a16 => k_is)
    (case z16 => refine' ⟨⟨?z16_lo, ?z16_ex⟩, ?z16_sa, ?z16_ga, ?z16_gg, ?z16_gc, ?z16_gs, ?z16_nf, ?z16_tC, ?z16_kC⟩; (case z16_lo => k_is); (case z16_ex => exact ⟨_, _, _, _, _, _, _, _, _, _, _, _, _, rfl⟩); (case z16_sa => k_is); (case z16_ga => k_is); (case z16_gg => k_is); (case z16_gc => k_is); (case z16_gs => k_is); (case z16_nf => k_is); (case z16_tC => k_is); (case z16_kC => k_is))
    (case y16 => refine' ⟨?y16_a1, ?y16_t1, ?y16_l1, ?y16_e1, ?y16_c1, ?y16_k1⟩; (case y16_a1 => k_is); (case y16_t1 => k_is); (case y16_l1 => k_is); (case y16_e1 => exact ⟨_, _, _, _, _, _, _, _, rfl⟩); (case y16_c1 => k_is); (case y16_k1 => k_is))
    (case w16 => exact rfl)
    (case v16 => k_is)
    (case x16 => exact ⟨_, _, _, _, rfl⟩)
    (case k0 => refine' ⟨?k0_aF, ?k0_lo, ?k0_ex, ?k0_co, ?k0_kp⟩; (case k0_aF => k_is); (case k0_lo => k_is); (case k0_ex => exact ⟨_, _, _, _, _, _, _, _, rfl⟩); (case k0_co => k_is); (case k0_kp => k_is))
    (case k1 => refine' ⟨?k1_aF, ?k1_lo, ?k1_ex, ?k1_co, ?k1_kp⟩; (case k1_aF => k_is); (case k1_lo => k_is); (case k1_ex => exact ⟨_, _, _, _, _, _, _, _, rfl⟩); (case k1_co => k_is); (case k1_kp => k_is))
    (case k2 => refine' ⟨?k2_aF, ?k2_lo, ?k2_ex, ?k2_co, ?k2_kp⟩; (case k2_aF => k_is); (case k2_lo => k_is); (case k2_ex => exact ⟨_, _, _, _, _, _, _, _, rfl⟩); (case k2_co => k_is); (case k2_kp => k_is))
    (case k3 => refine' ⟨?k3_aF, ?k3_lo, ?k3_ex, ?k3_co, ?k3_kp⟩; (case k3_aF => k_is); (case k3_lo => k_is); (case k3_ex => exact ⟨_, _, _, _, _, _, _, _, rfl⟩); (case k3_co => k_is); (case k3_kp => k_is))
    (case k4 => refine' ⟨?k4_aF, ?k4_lo, ?k4_ex, ?k4_co, ?k4_kp⟩; (case k4_aF => k_is); (case k4_lo => k_is); (case k4_ex => exact ⟨_, _, _, _, _, _, _, _, rfl⟩); (case k4_co => k_is); (case k4_kp => k_is))
    (case k5 => refine' ⟨?k5_aF, ?k5_lo, ?k5_ex, ?k5_co, ?k5_kp⟩; (case k5_aF => k_is); (case k5_lo => k_is); (case k5_ex => exact ⟨_, _, _, _, _, _, _, _, rfl⟩); (case k5_co => k_is); (case k5_kp => k_is))
    (case k6 => refine' ⟨?k6_aF, ?k6_lo, ?k6_ex, ?k6_co, ?k6_kp⟩; (case k6_aF => k_is); (case k6_lo => k_is); (case k6_ex => exact ⟨_, _, _, _, _, _, _, _, rfl⟩); (case k6_co => k_is); (case k6_kp => k_is))
    (case k7 => refine' ⟨?k7_aF, ?k7_lo, ?k7_ex, ?k7_co, ?k7_kp⟩; (case k7_aF => k_is); (case k7_lo => k_is); (case k7_ex => exact ⟨_, _, _, _, _, _, _, _, rfl⟩); (case k7_co => k_is); (case k7_kp => k_is))
    (case n_LookupError => k_is)
    (case n_OverflowError => k_is)
    (case n_ValueError => k_is)
    (case n_enumerate => k_is)
    (case n_isinstance => k_is)
    (case n_range => k_is)
    (case n_str => k_is)
    (case n_sum => k_is)
    (case g6 => k_is)
    (case g7 => k_is)
    all_goals exact (0 : PySem.Addr)
